import PyProof.Rows.All
import Wide.All
import OpenK.AllK
import Wide.FinOn
import HandS.ForMost
import HandS.ForExc
import HandS.Defaults
import HandS.Deep
import HandS.SortInts
import HandS.IsInst
import HandS.TupAny
import KE.KStateDown
import Lean
import HandS.Head0
import HandS.Head1
import HandS.Head2
import HandS.HeadEnd
import HandS.HeadHook1
import HandS.HeadHook2
import HandS.ExcInit
import HandS.ExcField
import HandS.TryMany
import HandS.ExcIs
import PySem.Challenge.RW_chartfold_k20_which_refusal
import KE.KExcIs
set_option Elab.async false
set_option linter.all false
set_option maxRecDepth 100000
set_option maxHeartbeats 1000000
/-! A layer of plain data over the hand layer: what a name holds is a datum; the heap is split into what is shared (never changed again) and what a name owns alone. -/
noncomputable section
namespace DL
open PySem PySem.Spec L2
open PyProof.Rows hiding St
set_option autoImplicit false

/-! ### data -/
inductive D where
  | non | bl (b : Bool) | int (i : Int) | str (s : Str) | lst (xs : List D) | tup (xs : List D) | ins (c : Str) (fs : List (Str × D)) | scr (ns : List Int)

mutual
def D.beq : D → D → Bool
  | .non, .non => true
  | .bl a, .bl b => a == b
  | .int a, .int b => decide (a = b)
  | .str a, .str b => decide (a = b)
  | .lst a, .lst b => beqL a b
  | .tup a, .tup b => beqL a b
  | .ins c a, .ins d b => decide (c = d) && beqF a b
  | .scr a, .scr b => decide (a = b)
  | _, _ => false
def beqL : List D → List D → Bool
  | [], [] => true
  | x :: xs, y :: ys => D.beq x y && beqL xs ys
  | _, _ => false
def beqF : List (Str × D) → List (Str × D) → Bool
  | [], [] => true
  | (f, x) :: xs, (g, y) :: ys => decide (f = g) && (D.beq x y && beqF xs ys)
  | _, _ => false
end
mutual
theorem D.beq_iff : ∀ a b : D, D.beq a b = true ↔ a = b
  | .non, b => by cases b <;> simp [D.beq]
  | .bl a, b => by cases b <;> simp [D.beq]
  | .int a, b => by cases b <;> simp [D.beq]
  | .str a, b => by cases b <;> simp [D.beq]
  | .scr a, b => by cases b <;> simp [D.beq]
  | .lst a, b => by
    cases b with
    | lst b => simp only [D.beq, beqL_iff a b, D.lst.injEq]
    | _ => simp [D.beq]
  | .tup a, b => by
    cases b with
    | tup b => simp only [D.beq, beqL_iff a b, D.tup.injEq]
    | _ => simp [D.beq]
  | .ins c a, b => by
    cases b with
    | ins d b => simp only [D.beq, beqF_iff a b, D.ins.injEq, Bool.and_eq_true, decide_eq_true_eq]
    | _ => simp [D.beq]
theorem beqL_iff : ∀ a b : List D, beqL a b = true ↔ a = b
  | [], [] => by simp [beqL]
  | [], _ :: _ => by simp [beqL]
  | _ :: _, [] => by simp [beqL]
  | x :: xs, y :: ys => by simp only [beqL, Bool.and_eq_true, D.beq_iff x y, beqL_iff xs ys, List.cons.injEq]
theorem beqF_iff : ∀ a b : List (Str × D), beqF a b = true ↔ a = b
  | [], [] => by simp [beqF]
  | [], _ :: _ => by simp [beqF]
  | _ :: _, [] => by simp [beqF]
  | (f, x) :: xs, (g, y) :: ys => by
    simp only [beqF, Bool.and_eq_true, decide_eq_true_eq, D.beq_iff x y, beqF_iff xs ys, List.cons.injEq, Prod.mk.injEq, and_assoc]
end
instance : DecidableEq D := fun a b => if h : D.beq a b = true then .isTrue ((D.beq_iff a b).mp h) else .isFalse fun e => h ((D.beq_iff a b).mpr e)

/-! ### what may be compared: no bools, no objects, not too deep -/
mutual
def D.pur : D → Bool
  | .non => true
  | .int _ => true
  | .str s => PyData.strOk s
  | .lst xs => purL xs
  | .tup xs => purL xs
  | _ => false
def purL : List D → Bool
  | [] => true
  | x :: xs => D.pur x && purL xs
end
mutual
def D.dep : D → Nat
  | .lst xs => depL xs + 1
  | .tup xs => depL xs + 1
  | _ => 0
def depL : List D → Nat
  | [] => 0
  | x :: xs => max (D.dep x) (depL xs)
end
mutual
def D.py : D → PyData
  | .int i => .int i
  | .bl b => .bool b
  | .str s => .str s
  | .lst xs => .list (pyL xs)
  | .tup xs => .tuple (pyL xs)
  | _ => .none
def pyL : List D → List PyData
  | [] => []
  | x :: xs => D.py x :: pyL xs
end
mutual
theorem D.lay : ∀ d : D, d.pur = true → d.py.canLay0 = true
  | .non, _ => by simp [D.py, PyData.canLay0]
  | .bl _, h => by simp [D.pur] at h
  | .int _, _ => by simp [D.py, PyData.canLay0]
  | .str s, h => by simpa [D.py, PyData.canLay0, D.pur] using h
  | .lst xs, h => by
    simp only [D.py, PyData.canLay0]
    exact layL xs (by simpa [D.pur] using h)
  | .tup xs, h => by
    simp only [D.py, PyData.canLay0]
    exact layL xs (by simpa [D.pur] using h)
  | .ins _ _, h => by simp [D.pur] at h
  | .scr _, h => by simp [D.pur] at h
theorem layL : ∀ xs : List D, purL xs = true → PyData.canLayAll0 (pyL xs) = true
  | [], _ => by simp [pyL, PyData.canLayAll0]
  | x :: xs, h => by
    simp only [purL, Bool.and_eq_true] at h
    simp only [pyL, PyData.canLayAll0, Bool.and_eq_true]
    exact ⟨D.lay x h.1, layL xs h.2⟩
end
mutual
theorem D.dep_py : ∀ d : D, d.py.depth = d.dep
  | .non => by simp [D.py, D.dep, PyData.depth]
  | .bl _ => by simp [D.py, D.dep, PyData.depth]
  | .int _ => by simp [D.py, D.dep, PyData.depth]
  | .str s => by simp [D.py, D.dep, PyData.depth]
  | .lst xs => by simp only [D.py, D.dep, PyData.depth, depL_py xs]
  | .tup xs => by simp only [D.py, D.dep, PyData.depth, depL_py xs]
  | .ins _ _ => by simp [D.py, D.dep, PyData.depth]
  | .scr _ => by simp [D.py, D.dep, PyData.depth]
theorem depL_py : ∀ xs : List D, PyData.depthAll (pyL xs) = depL xs
  | [] => by simp [pyL, depL, PyData.depthAll]
  | x :: xs => by simp only [pyL, depL, PyData.depthAll, D.dep_py x, depL_py xs]
end
mutual
theorem D.eqv : ∀ a b : D, a.pur = true → b.pur = true → PyData.eqv a.py b.py = D.beq a b
  | .bl _, _, h, _ => by simp [D.pur] at h
  | .ins _ _, _, h, _ => by simp [D.pur] at h
  | .scr _, _, h, _ => by simp [D.pur] at h
  | .non, b, _, h => by cases b <;> first | (simp [D.pur] at h; done) | simp [D.py, PyData.eqv, D.beq]
  | .int i, b, _, h => by
    cases b <;> first | (simp [D.pur] at h; done) | (simp only [D.py, PyData.eqv, D.beq, Bool.beq_eq_decide_eq]; done)
  | .str i, b, _, h => by
    cases b <;> first | (simp [D.pur] at h; done) | (simp only [D.py, PyData.eqv, D.beq, Bool.beq_eq_decide_eq]; done)
  | .lst xs, b, ha, h => by
    cases b with
    | lst ys =>
      simp only [D.py, PyData.eqv, D.beq]
      exact eqvL xs ys (by simpa [D.pur] using ha) (by simpa [D.pur] using h)
    | bl _ => simp [D.pur] at h
    | ins _ _ => simp [D.pur] at h
    | scr _ => simp [D.pur] at h
    | _ => simp [D.py, PyData.eqv, D.beq]
  | .tup xs, b, ha, h => by
    cases b with
    | tup ys =>
      simp only [D.py, PyData.eqv, D.beq]
      exact eqvL xs ys (by simpa [D.pur] using ha) (by simpa [D.pur] using h)
    | bl _ => simp [D.pur] at h
    | ins _ _ => simp [D.pur] at h
    | scr _ => simp [D.pur] at h
    | _ => simp [D.py, PyData.eqv, D.beq]
theorem eqvL : ∀ xs ys : List D, purL xs = true → purL ys = true → PyData.eqvAll (pyL xs) (pyL ys) = beqL xs ys
  | [], [], _, _ => by simp [pyL, PyData.eqvAll, beqL]
  | [], _ :: _, _, _ => by simp [pyL, PyData.eqvAll, beqL]
  | _ :: _, [], _, _ => by simp [pyL, PyData.eqvAll, beqL]
  | x :: xs, y :: ys, ha, hb => by
    simp only [purL, Bool.and_eq_true] at ha hb
    simp only [pyL, PyData.eqvAll, beqL, D.eqv x y ha.1 hb.1, eqvL xs ys ha.2 hb.2]
end
theorem beq_dec (a b : D) : D.beq a b = decide (a = b) := by
  by_cases h : a = b
  · rw [decide_eq_true h, (D.beq_iff a b).mpr h]
  · rw [decide_eq_false h]
    cases e : D.beq a b with
    | false => rfl
    | true => exact absurd ((D.beq_iff a b).mp e) h
/-- a premise that is not computed -/
def gd (p : Prop) : Prop := p
noncomputable instance {p : Prop} : Decidable (gd p) := Classical.propDecidable _
def D.ok (d : D) : Bool := d.pur && decide (d.dep ≤ 60)
theorem D.shaped {d : D} (h : d.ok = true) : SeqAt.shaped d.py = true := by
  simp only [D.ok, Bool.and_eq_true, decide_eq_true_eq] at h
  simp only [SeqAt.shaped, Bool.and_eq_true, decide_eq_true_eq]
  exact ⟨D.lay d h.1, by rw [D.dep_py]; omega⟩
theorem D.eqv_ok {a b : D} (ha : a.ok = true) (hb : b.ok = true) : PyData.eqv a.py b.py = decide (a = b) := by
  simp only [D.ok, Bool.and_eq_true] at ha hb
  rw [D.eqv a b ha.1 hb.1, beq_dec]

/-! ### the relation with the heap -/
structure Gb where
  P : Program
  w : World
  K : PySem.W.Frag
  mg : Str → Option Value
  base : Heap

mutual
inductive Rp (G : Gb) (F : Hp) : D → V → Prop
  | non : Rp G F .non .non
  | bl (b : Bool) : Rp G F (.bl b) (.bl b)
  | int (i : Int) : Rp G F (.int i) (.int i)
  | str (s : Str) : Rp G F (.str s) (.str s)
  | scr {a : Addr} {ns : List Int} : SqL G.K F a (ns.map V.int) → Rp G F (.scr ns) (.ref a)
  | lst {a : Addr} {vs : List V} {xs : List D} : F a = some (.lst vs) → RpL G F xs vs → Rp G F (.lst xs) (.ref a)
  | tup {a : Addr} {vs : List V} {xs : List D} : SqT G.K F a vs → RpL G F xs vs → Rp G F (.tup xs) (.ref a)
  | ins {a C dx : Addr} {c : Str} {fs : List (Str × D)} {vfs : List (Str × V)} : G.mg c = some (.ref C) → F a = some (.ins C dx vfs) → RpF G F fs vfs → Rp G F (.ins c fs) (.ref a)
inductive RpL (G : Gb) (F : Hp) : List D → List V → Prop
  | nil : RpL G F [] []
  | cons {d : D} {v : V} {ds : List D} {vs : List V} : Rp G F d v → RpL G F ds vs → RpL G F (d :: ds) (v :: vs)
inductive RpF (G : Gb) (F : Hp) : List (Str × D) → List (Str × V) → Prop
  | nil : RpF G F [] []
  | cons {f : Str} {d : D} {v : V} {ds : List (Str × D)} {vs : List (Str × V)} : Rp G F d v → RpF G F ds vs → RpF G F ((f, d) :: ds) ((f, v) :: vs)
end
section
variable {G : Gb} {F F' H : Hp}
theorem Same.seqT {K : PySem.W.Frag} {H H' : Hp} {a : Addr} {xs : List V} (e : Same H H') (h : SqT K H a xs) : SqT K H' a xs := by
  rcases h with (h | ⟨o, h⟩) | h
  · exact .inl (.inl (e _ _ h))
  · exact .inl (.inr ⟨o, e _ _ h⟩)
  · exact .inr h
mutual
theorem Rp.mono (s : Same F F') : ∀ {d v}, Rp G F d v → Rp G F' d v
  | _, _, .non => .non
  | _, _, .bl b => .bl b
  | _, _, .int i => .int i
  | _, _, .str x => .str x
  | _, _, .scr h => .scr (s.seq h)
  | _, _, .lst h r => .lst (s _ _ h) (RpL.mono s r)
  | _, _, .tup h r => .tup (Same.seqT s h) (RpL.mono s r)
  | _, _, .ins m h r => .ins m (s _ _ h) (RpF.mono s r)
theorem RpL.mono (s : Same F F') : ∀ {d v}, RpL G F d v → RpL G F' d v
  | _, _, .nil => .nil
  | _, _, .cons h r => .cons (Rp.mono s h) (RpL.mono s r)
theorem RpF.mono (s : Same F F') : ∀ {d v}, RpF G F d v → RpF G F' d v
  | _, _, .nil => .nil
  | _, _, .cons h r => .cons (Rp.mono s h) (RpF.mono s r)
end
theorem RpL.length : ∀ {ds : List D} {vs : List V}, RpL G F ds vs → ds.length = vs.length
  | _, _, .nil => rfl
  | _, _, .cons _ r => by rw [List.length_cons, List.length_cons, RpL.length r]
theorem RpL.get : ∀ {ds : List D} {vs : List V} {i : Nat} {d : D}, RpL G F ds vs → ds[i]? = some d → ∃ v, vs[i]? = some v ∧ Rp G F d v
  | _, _, _, _, .nil, h => by simp at h
  | _, _, 0, _, .cons r _, h => by simp at h; subst h; exact ⟨_, rfl, r⟩
  | _, _, i + 1, _, .cons _ r, h => by
    obtain ⟨v, h1, h2⟩ := RpL.get (i := i) r (by simpa using h)
    exact ⟨v, by simpa using h1, h2⟩
theorem RpL.getV : ∀ {ds : List D} {vs : List V} {i : Nat} {v : V}, RpL G F ds vs → vs[i]? = some v → ∃ d, ds[i]? = some d ∧ Rp G F d v
  | _, _, _, _, .nil, h => by simp at h
  | _, _, 0, _, .cons r _, h => by simp at h; subst h; exact ⟨_, rfl, r⟩
  | _, _, i + 1, _, .cons _ r, h => by
    obtain ⟨v, h1, h2⟩ := RpL.getV (i := i) r (by simpa using h)
    exact ⟨v, by simpa using h1, h2⟩
theorem RpL.append : ∀ {ds es : List D} {vs ws : List V}, RpL G F ds vs → RpL G F es ws → RpL G F (ds ++ es) (vs ++ ws)
  | _, _, _, _, .nil, s => s
  | _, _, _, _, .cons r t, s => .cons r (RpL.append t s)
theorem RpL.take : ∀ {ds : List D} {vs : List V} (n : Nat), RpL G F ds vs → RpL G F (ds.take n) (vs.take n)
  | _, _, 0, _ => .nil
  | _, _, _ + 1, .nil => .nil
  | _, _, n + 1, .cons r t => .cons r (RpL.take n t)
theorem RpL.drop : ∀ {ds : List D} {vs : List V} (n : Nat), RpL G F ds vs → RpL G F (ds.drop n) (vs.drop n)
  | _, _, 0, r => r
  | _, _, _ + 1, .nil => .nil
  | _, _, n + 1, .cons _ t => RpL.drop n t
theorem RpL.set {d : D} {v : V} (r : Rp G F d v) : ∀ {ds : List D} {vs : List V} (i : Nat), RpL G F ds vs → RpL G F (ds.set i d) (vs.set i v)
  | _, _, _, .nil => .nil
  | _, _, 0, .cons _ t => .cons r t
  | _, _, i + 1, .cons q t => .cons q (RpL.set r i t)
theorem RpL.dropLast {ds : List D} {vs : List V} (r : RpL G F ds vs) : RpL G F ds.dropLast vs.dropLast := by
  rw [List.dropLast_eq_take, List.dropLast_eq_take, r.length]
  exact r.take _
theorem RpL.one {d : D} {v : V} (r : Rp G F d v) : RpL G F [d] [v] := .cons r .nil
theorem RpF.lookup : ∀ {fs : List (Str × D)} {vs : List (Str × V)} {f : Str} {d : D}, RpF G F fs vs → fs.lookup f = some d → ∃ v, vs.lookup f = some v ∧ Rp G F d v
  | _, _, _, _, .nil, h => by simp at h
  | _, _, f, _, .cons (f := g) r t, h => by
    rw [List.lookup_cons] at h ⊢
    cases e : (f == g) with
    | true =>
      rw [e] at h
      cases h
      exact ⟨_, rfl, r⟩
    | false =>
      rw [e] at h
      exact RpF.lookup t h
theorem RpF.length : ∀ {ds : List (Str × D)} {vs : List (Str × V)}, RpF G F ds vs → ds.length = vs.length
  | _, _, .nil => rfl
  | _, _, .cons _ r => by rw [List.length_cons, List.length_cons, RpF.length r]
/-- a store to a field -/
def putD (f : Str) (d : D) : List (Str × D) → List (Str × D)
  | [] => [(f, d)]
  | (g, e) :: r => if g = f then (g, d) :: r else (g, e) :: putD f d r
mutual
theorem Rp.dp : ∀ {d v}, Rp G F d v → d.pur = true → Dp G.K F v d.py
  | _, _, .non, _ => by simp only [D.py]; exact .non
  | _, _, .bl b, h => by simp [D.pur] at h
  | _, _, .int i, _ => by simp only [D.py]; exact .int i
  | _, _, .str x, _ => by simp only [D.py]; exact .str x
  | _, _, .lst h r, p => by simp only [D.py]; exact .lst (SqL.of h) (RpL.dp r (by simpa [D.pur] using p))
  | _, _, .scr _, h => by simp [D.pur] at h
  | _, _, .tup h r, p => by simp only [D.py]; exact .tup h (RpL.dp r (by simpa [D.pur] using p))
  | _, _, .ins m h r, p => by simp [D.pur] at p
theorem RpL.dp : ∀ {d v}, RpL G F d v → purL d = true → DpAll G.K F v (pyL d)
  | _, _, .nil, _ => by simp only [pyL]; exact .nil
  | _, _, .cons h r, p => by
    simp only [purL, Bool.and_eq_true] at p
    simp only [pyL]
    exact .cons (Rp.dp h p.1) (RpL.dp r p.2)
end
theorem RpL.ints : ∀ (ns : List Int), RpL G F (ns.map D.int) (ns.map V.int)
  | [] => .nil
  | n :: ns => .cons (.int n) (RpL.ints ns)
theorem RpL.ints_inv : ∀ {ns : List Int} {vs : List V}, RpL G F (ns.map D.int) vs → vs = ns.map V.int
  | [], _, .nil => rfl
  | _ :: _, _, .cons (.int _) r => by rw [List.map_cons, RpL.ints_inv r]
theorem RpL.strs : ∀ (ns : List Str), RpL G F (ns.map D.str) (ns.map V.str)
  | [] => .nil
  | n :: ns => .cons (.str n) (RpL.strs ns)
theorem RpL.strs_inv : ∀ {ns : List Str} {vs : List V}, RpL G F (ns.map D.str) vs → vs = ns.map V.str
  | [], _, .nil => rfl
  | _ :: _, _, .cons (.str _) r => by rw [List.map_cons, RpL.strs_inv r]
end
end DL
set_option Elab.async false
set_option linter.all false
set_option maxRecDepth 100000
set_option maxHeartbeats 1000000
noncomputable section
namespace DL
open PySem PySem.Spec L2
open PyProof.Rows hiding St
set_option autoImplicit false

/-! ### what a name holds, what an expression gives, how a run ends -/
inductive Slot where
  | un | sh (d : D) | ow (xs : List D) | ob (c : Str) (fs : List (Str × D)) | ex (c : Str) (fs : List (Str × D))
inductive RV where
  | sh (d : D) | fr (xs : List D) | bo (i : Nat)
abbrev Fds := List (Str × D)
inductive Out (α : Type) where
  | ok (a : α) (e : List Slot) | ex (c : Str) (fs : Option Fds) (e : List Slot) | st
abbrev M (α : Type) := List Slot → Out α
def bnd {α β : Type} (m : M α) (k : α → M β) : M β := fun e => match m e with
  | .ok a e' => k a e'
  | .ex c fs e' => .ex c fs e'
  | .st => .st
def holdR : RV → RV
  | .fr xs => .sh (.lst xs)
  | r => r
def bh {β : Type} (m : M RV) (k : RV → M β) : M β := bnd m fun r => k (holdR r)
/-- the datum that is held -/
def der (e : List Slot) : RV → Option D
  | .sh d => some d
  | .fr _ => none
  | .bo i => match e[i]? with
    | some (.ow xs) => some (.lst xs)
    | some (.sh d) => some d
    | _ => none
/-- shared from now on -/
def frzR : RV → M D
  | .sh d => fun e => .ok d e
  | .fr xs => fun e => .ok (.lst xs) e
  | .bo i => fun e => match e[i]? with
    | some (.ow xs) => .ok (.lst xs) (e.set i (.sh (.lst xs)))
    | some (.ob c fs) => .ok (.ins c fs) (e.set i (.sh (.ins c fs)))
    | some (.sh d) => .ok d e
    | _ => .st

/-! ### the relation -/
structure Bs where
  F : Hp
  H : Hp
  O : List Addr
  σ : St
  E : Hp
abbrev XA := Option (Addr × Value × Option Addr)
/-- the fields of a caught error -/
def ExV (G : Gb) (F : Hp) (fs : Fds) (d : Option Addr) : Prop := (fs = [] ∧ d = none) ∨ ∃ dd vfs, d = some dd ∧ F dd = some (.xd vfs) ∧ RpF G F fs vfs ∧ fs ≠ []
theorem ExV.mono {G : Gb} {F F' : Hp} {fs : Fds} {d : Option Addr} (s : Same F F') (h : ExV G F fs d) : ExV G F' fs d := by
  rcases h with h | ⟨dd, vfs, h1, h2, h3, h4⟩
  · exact .inl h
  · exact .inr ⟨dd, vfs, h1, s _ _ h2, RpF.mono s h3, h4⟩
def SlotOk (G : Gb) (xa : XA) (fx : List Nat) (B : Bs) (F H : Hp) (i : Nat) (o : Option V) : Slot → Prop
  | .un => True
  | .sh d => ∃ v, o = some v ∧ Rp G F d v
  | .ow xs => ∃ a vs, o = some (.ref a) ∧ F a = none ∧ H a = some (.lst vs) ∧ RpL G F xs vs ∧ (B.H a = none ∨ a ∈ B.O) ∧ (i ∈ fx ∨ B.E a = none)
  | .ob c fs => ∃ a C dx vfs, o = some (.ref a) ∧ F a = none ∧ H a = some (.ins C dx vfs) ∧ G.mg c = some (.ref C) ∧ RpF G F fs vfs ∧ (B.H a = none ∨ a ∈ B.O) ∧ (i ∈ fx ∨ B.E a = none)
  | .ex c fs => ∃ a C d, xa = some (a, .ref C, d) ∧ o = some (.ref a) ∧ G.mg c = some (.ref C) ∧ ExV G F fs d
def isOw : Slot → Bool
  | .ow _ => true
  | .ob _ _ => true
  | _ => false
/-- name i owns what stands at a -/
def Own (e : List Slot) (σ : St) (i : Nat) (a : Addr) : Prop := σ[i]? = some (some (.ref a)) ∧ ∃ s, e[i]? = some s ∧ isOw s = true
structure Ok (G : Gb) (xa : XA) (fx : List Nat) (B : Bs) (F H : Hp) (σ : St) (e : List Slot) : Prop where
  same : Same F H
  sF : Same B.F F
  kH : ∀ b o, B.H b = some o → b ∉ B.O → H b = some o
  dom : ∀ b, B.H b ≠ none → H b ≠ none
  domE : ∀ b, B.E b ≠ none → H b ≠ none
  nF : ∀ b, B.F b = none → B.H b ≠ none → b ∉ B.O → F b = none
  len : σ.length = e.length
  sl : ∀ i s o, e[i]? = some s → σ[i]? = some o → SlotOk G xa fx B F H i o s
  dj : ∀ i j a, i ≠ j → Own e σ i a → Own e σ j a → False
  fix : ∀ i ∈ fx, σ[i]? = B.σ[i]?
structure Ext (F H F' H' : Hp) : Prop where
  sF : Same F F'
  sH : Same H H'
  s : Same F' H'
  nw : ∀ b, F b = none → H b ≠ none → F' b = none
def RvOk (G : Gb) (B : Bs) (F H : Hp) (σ : St) (e : List Slot) (v : V) : RV → Prop
  | .sh d => Rp G F d v
  | .fr xs => ∃ a vs, v = .ref a ∧ F a = none ∧ H a = some (.lst vs) ∧ RpL G F xs vs ∧ (B.H a = none ∨ a ∈ B.O) ∧ B.E a = none ∧ ∀ i, ¬ Own e σ i a
  | .bo i => σ[i]? = some (some v) ∧ ∃ s, e[i]? = some s ∧ isOw s = true
def HeldOk (G : Gb) (F : Hp) (σ : St) (v : V) : RV → Prop
  | .sh d => Rp G F d v
  | .fr _ => False
  | .bo i => σ[i]? = some (some v)
def NewOk (G : Gb) (H F' H' : Hp) (v : V) : RV → Prop
  | .sh d => Rp G F' d v
  | .fr xs => ∃ a vs, v = .ref a ∧ H a = none ∧ F' a = none ∧ H' a = some (.lst vs) ∧ RpL G F' xs vs
  | .bo _ => False
/-- borrowed: shared, or a list that a name owns -/
def Bp (G : Gb) (F H : Hp) (d : D) (v : V) : Prop := Rp G F d v ∨ ∃ a xs vs, v = .ref a ∧ d = .lst xs ∧ H a = some (.lst vs) ∧ RpL G F xs vs
def ExOk (G : Gb) (F : Hp) (c : Str) (fs : Option Fds) (cls : Value) (d : Option Addr) : Prop :=
  ∃ C, G.mg c = some (.ref C) ∧ cls = Value.ref C ∧ match fs with
    | none => d = none
    | some l => ∃ dd vfs, d = some dd ∧ F dd = some (.xd vfs) ∧ RpF G F l vfs

section
variable {G : Gb} {xa : XA} {fx : List Nat} {B : Bs} {F H F' H' F1 : Hp} {σ : St} {e : List Slot} {W : WX}
theorem Ext.refl (s : Same F H) : Ext F H F H := ⟨Same.refl _, Same.refl _, s, fun _ h _ => h⟩
theorem Ext.trans {F2 H2 : Hp} (a : Ext F H F' H') (b : Ext F' H' F2 H2) : Ext F H F2 H2 :=
  ⟨a.sF.trans b.sF, a.sH.trans b.sH, b.s, fun c h1 h2 => b.nw c (a.nw c h1 h2) (fun z => h2 (by
    cases q : H c with
    | none => rfl
    | some o => rw [a.sH c o q] at z; cases z))⟩
theorem ne_none {a : Addr} {o : HO} (h : H a = some o) : H a ≠ none := by rw [h]; exact fun z => nomatch z
theorem Ext.new {p : Addr} {o : HO} (s : Same F H) (hp : H p = none) : Ext F H F (upd H p o) := by
  refine ⟨Same.refl _, fun b u q => ?_, fun b u q => ?_, fun _ h _ => h⟩
  · rw [upd_ne (ne_of_none q hp)]; exact q
  · have q' := s b u q
    rw [upd_ne (ne_of_none q' hp)]; exact q'
theorem Ext.newF {p : Addr} {o : HO} (s : Same F H) (hp : H p = none) : Ext F H (upd F p o) (upd H p o) := by
  have hf : F p = none := s.free hp
  refine ⟨fun b u q => ?_, fun b u q => ?_, fun b u q => ?_, fun b h1 h2 => ?_⟩
  · rw [upd_ne (ne_of_none q hf)]; exact q
  · rw [upd_ne (ne_of_none q hp)]; exact q
  · by_cases hb : b = p
    · subst hb; rw [upd_same] at q ⊢; exact q
    · rw [upd_ne hb] at q ⊢; exact s b u q
  · have hb : b ≠ p := fun z => h2 (by rw [z]; exact hp)
    rw [upd_ne hb]; exact h1
theorem RpF.mono' (s : Same F F') {d v} (r : RpF G F d v) : RpF G F' d v := RpF.mono s r
theorem SlotOk.ext (x : Ext F H F' H') {i : Nat} {o : Option V} {s : Slot} (h : SlotOk G xa fx B F H i o s) : SlotOk G xa fx B F' H' i o s := by
  cases s with
  | un => trivial
  | sh d => obtain ⟨v, e, r⟩ := h; exact ⟨v, e, r.mono x.sF⟩
  | ow xs => obtain ⟨a, vs, e, f, hh, r, q⟩ := h; exact ⟨a, vs, e, x.nw a f (ne_none hh), x.sH _ _ hh, r.mono x.sF, q⟩
  | ob c fs => obtain ⟨a, C, dx, vfs, e, f, hh, m, r, q⟩ := h; exact ⟨a, C, dx, vfs, e, x.nw a f (ne_none hh), x.sH _ _ hh, m, RpF.mono x.sF r, q⟩
  | ex c fs => obtain ⟨a, C, d, e, e2, m, f⟩ := h; exact ⟨a, C, d, e, e2, m, f.mono x.sF⟩
theorem Ok.ext (h : Ok G xa fx B F H σ e) (x : Ext F H F' H') : Ok G xa fx B F' H' σ e where
  same := x.s
  sF := h.sF.trans x.sF
  kH := fun b o q n => x.sH b o (h.kH b o q n)
  dom := fun b q => fun z => h.dom b q (by
    cases q2 : H b with
    | none => rfl
    | some o => rw [x.sH b o q2] at z; cases z)
  domE := fun b q => fun z => h.domE b q (by
    cases q2 : H b with
    | none => rfl
    | some o => rw [x.sH b o q2] at z; cases z)
  nF := fun b h1 h2 h3 => x.nw b (h.nF b h1 h2 h3) (h.dom b h2)
  len := h.len
  sl := fun i s o h1 h2 => (h.sl i s o h1 h2).ext x
  dj := h.dj
  fix := h.fix
theorem Ok.fresh (h : Ok G xa fx B F H σ e) {a : Addr} (ha : H a = none) : B.H a = none := by
  cases q : B.H a with
  | none => rfl
  | some o => exact absurd ha (h.dom a (by rw [q]; exact fun z => nomatch z))
theorem Ok.freshE (h : Ok G xa fx B F H σ e) {a : Addr} (ha : H a = none) : B.E a = none := by
  cases q : B.E a with
  | none => rfl
  | some o => exact absurd ha (h.domE a (by rw [q]; exact fun z => nomatch z))
theorem Ok.own_there (h : Ok G xa fx B F H σ e) {i : Nat} {a : Addr} (o : Own e σ i a) : H a ≠ none ∧ F a = none := by
  obtain ⟨h1, s, h2, h3⟩ := o
  have z := h.sl i s _ h2 h1
  cases s with
  | ow xs => obtain ⟨b, vs, e1, f, hh, _⟩ := z; cases e1; exact ⟨ne_none hh, f⟩
  | ob c fs => obtain ⟨b, C, dx, vfs, e1, f, hh, _⟩ := z; cases e1; exact ⟨ne_none hh, f⟩
  | _ => cases h3
theorem NewOk.rv (h : Ok G xa fx B F H σ e) {v : V} {r : RV} (n : NewOk G H F' H' v r) : RvOk G B F' H' σ e v r := by
  cases r with
  | sh d => exact n
  | fr xs =>
    obtain ⟨a, vs, e1, h1, h2, h3, h4⟩ := n
    exact ⟨a, vs, e1, h2, h3, h4, .inl (h.fresh h1), h.freshE h1, fun i o => (h.own_there o).1 h1⟩
  | bo i => exact n.elim
/-- what a fresh list or an owned one is, it is shared from now on -/
theorem Ok.share {a : Addr} {u : HO} (h : Ok G xa fx B F H σ e) (hH : H a = some u) (hF : F a = none) (hB : B.H a = none ∨ a ∈ B.O) (no : ∀ i, ¬ Own e σ i a) : Ok G xa fx B (upd F a u) H σ e ∧ Same F (upd F a u) := by
  have sm : Same F (upd F a u) := fun b o q => by rw [upd_ne (ne_of_none q hF)]; exact q
  refine ⟨⟨fun b o q => ?_, h.sF.trans sm, h.kH, h.dom, h.domE, fun b h1 h2 h3 => ?_, h.len, fun i s o h1 h2 => ?_, h.dj, h.fix⟩, sm⟩
  · by_cases hb : b = a
    · subst hb; rw [upd_same] at q; cases q; exact hH
    · rw [upd_ne hb] at q; exact h.same b o q
  · have hb : b ≠ a := fun z => by
      subst z
      rcases hB with q | q
      · exact h2 q
      · exact h3 q
    rw [upd_ne hb]; exact h.nF b h1 h2 h3
  · have z := h.sl i s o h1 h2
    have ne : ∀ b, o = some (.ref b) → isOw s = true → b ≠ a := fun b eo hs q => no i ⟨by rw [h2, eo, q], s, h1, hs⟩
    cases s with
    | un => trivial
    | sh d => obtain ⟨v, e1, r⟩ := z; exact ⟨v, e1, r.mono sm⟩
    | ow xs =>
      obtain ⟨b, vs, e1, f, hh, r, q⟩ := z
      exact ⟨b, vs, e1, by rw [upd_ne (ne b e1 rfl)]; exact f, hh, r.mono sm, q⟩
    | ob c fs =>
      obtain ⟨b, C, dx, vfs, e1, f, hh, m, r, q⟩ := z
      exact ⟨b, C, dx, vfs, e1, by rw [upd_ne (ne b e1 rfl)]; exact f, hh, m, RpF.mono sm r, q⟩
    | ex c fs => obtain ⟨b, C, d, e1, e2, m, f⟩ := z; exact ⟨b, C, d, e1, e2, m, f.mono sm⟩
/-- a slot's state is said anew -/
theorem Ok.slot {i : Nat} {s : Slot} (h : Ok G xa fx B F H σ e) (hs : isOw s = false) (hk : ∀ o, σ[i]? = some o → SlotOk G xa fx B F H i o s) : Ok G xa fx B F H σ (e.set i s) where
  same := h.same
  sF := h.sF
  kH := h.kH
  dom := h.dom
  domE := h.domE
  nF := h.nF
  len := by rw [List.length_set]; exact h.len
  sl := fun j t o h1 h2 => by
    by_cases hj : i = j
    · subst hj
      by_cases hl : i < e.length
      · rw [List.getElem?_set_self hl] at h1; cases h1; exact hk o h2
      · rw [List.getElem?_eq_none (by simpa using hl)] at h1; cases h1
    · rw [List.getElem?_set_ne hj] at h1; exact h.sl j t o h1 h2
  dj := fun j k a n h1 h2 => by
    have key : ∀ m, Own (e.set i s) σ m a → Own e σ m a := fun m ⟨q1, t, q2, q3⟩ => by
      by_cases hm : i = m
      · subst hm
        by_cases hl : i < e.length
        · rw [List.getElem?_set_self hl] at q2; cases q2; rw [hs] at q3; cases q3
        · rw [List.getElem?_eq_none (by simpa using hl)] at q2; cases q2
      · rw [List.getElem?_set_ne hm] at q2; exact ⟨q1, t, q2, q3⟩
    exact h.dj j k a n (key j h1) (key k h2)
  fix := h.fix
/-- behind it name i owns nothing -/
theorem Ok.unown (h : Ok G xa fx B F H σ e) (i : Nat) : Ok G xa fx B F H σ (e.set i .un) := h.slot rfl fun _ _ => trivial
theorem Ok.own_one (h : Ok G xa fx B F H σ e) {i : Nat} {a : Addr} (o : Own e σ i a) (j : Nat) : ¬ Own (e.set i .un) σ j a := fun ⟨q1, t, q2, q3⟩ => by
  by_cases hj : i = j
  · subst hj
    by_cases hl : i < e.length
    · rw [List.getElem?_set_self hl] at q2; cases q2; cases q3
    · rw [List.getElem?_eq_none (by simpa using hl)] at q2; cases q2
  · rw [List.getElem?_set_ne hj] at q2
    exact h.dj i j a hj o ⟨q1, t, q2, q3⟩
theorem set_set {α : Type} (l : List α) (i : Nat) (a b : α) : (l.set i a).set i b = l.set i b := List.set_set ..
theorem Ok.promote {i : Nat} {v : V} {s : Slot} (h : Ok G xa fx B F H σ e) (hi : σ[i]? = some (some v)) (he : e[i]? = some s) (hs : isOw s = true) :
    ∃ F' d, Same F F' ∧ Ok G xa fx B F' H σ (e.set i (.sh d)) ∧ Rp G F' d v ∧ frzR (.bo i) e = .ok d (e.set i (.sh d)) := by
  have z := h.sl i s _ he hi
  cases s with
  | ow xs =>
    obtain ⟨a, vs, e1, f, hh, r, q⟩ := z
    cases e1
    have o : Own e σ i a := ⟨hi, _, he, rfl⟩
    obtain ⟨h2, sm⟩ := (h.unown i).share hh f q.1 (h.own_one o)
    have rp : Rp G (upd F a (.lst vs)) (.lst xs) (.ref a) := .lst upd_same (r.mono sm)
    have h3 := h2.slot (i := i) (s := .sh (.lst xs)) rfl fun o ho => by rw [hi] at ho; cases ho; exact ⟨_, rfl, rp⟩
    rw [set_set] at h3
    exact ⟨_, _, sm, h3, rp, by simp [frzR, he]⟩
  | ob c fs =>
    obtain ⟨a, C, dx, vfs, e1, f, hh, m, r, q⟩ := z
    cases e1
    have o : Own e σ i a := ⟨hi, _, he, rfl⟩
    obtain ⟨h2, sm⟩ := (h.unown i).share hh f q.1 (h.own_one o)
    have rp : Rp G (upd F a (.ins C dx vfs)) (.ins c fs) (.ref a) := .ins m upd_same (RpF.mono sm r)
    have h3 := h2.slot (i := i) (s := .sh (.ins c fs)) rfl fun o ho => by rw [hi] at ho; cases ho; exact ⟨_, rfl, rp⟩
    rw [set_set] at h3
    exact ⟨_, _, sm, h3, rp, by simp [frzR, he]⟩
  | _ => cases hs
theorem hold_ok {v : V} {r : RV} (h : Ok G xa fx B F H σ e) (q : RvOk G B F H σ e v r) : ∃ F', Same F F' ∧ Ok G xa fx B F' H σ e ∧ HeldOk G F' σ v (holdR r) := by
  cases r with
  | sh d => exact ⟨F, Same.refl _, h, q⟩
  | fr xs =>
    obtain ⟨a, vs, e1, f, hh, r, b, _, no⟩ := q
    obtain ⟨h2, sm⟩ := h.share hh f b no
    exact ⟨_, sm, h2, by subst e1; exact .lst upd_same (r.mono sm)⟩
  | bo i => exact ⟨F, Same.refl _, h, q.1⟩
theorem frz_ok {v : V} {r : RV} {d : D} {e' : List Slot} (h : Ok G xa fx B F H σ e) (q : HeldOk G F σ v r) (k : frzR r e = .ok d e') : ∃ F', Same F F' ∧ Ok G xa fx B F' H σ e' ∧ Rp G F' d v := by
  cases r with
  | sh d' => cases k; exact ⟨F, Same.refl _, h, q⟩
  | fr xs => exact q.elim
  | bo i =>
    have hi : σ[i]? = some (some v) := q
    cases he : e[i]? with
    | none => simp [frzR, he] at k
    | some s =>
      cases s with
      | ow xs =>
        obtain ⟨F', d', sm, h2, rp, k2⟩ := h.promote hi he rfl
        rw [k] at k2; cases k2
        exact ⟨F', sm, h2, rp⟩
      | ob c fs =>
        obtain ⟨F', d', sm, h2, rp, k2⟩ := h.promote hi he rfl
        rw [k] at k2; cases k2
        exact ⟨F', sm, h2, rp⟩
      | sh d' =>
        simp [frzR, he] at k
        obtain ⟨rfl, rfl⟩ := k
        obtain ⟨v', e1, rp⟩ := h.sl i _ _ he hi
        cases e1
        exact ⟨F, Same.refl _, h, rp⟩
      | un => simp [frzR, he] at k
      | ex c fs => simp [frzR, he] at k
theorem frz_ex {r : RV} {c : Str} {fs : Option Fds} {e' : List Slot} : frzR r e ≠ .ex c fs e' := fun k => by
  cases r with
  | sh d => cases k
  | fr d => cases k
  | bo i =>
    simp only [frzR] at k
    split at k <;> cases k
theorem der_ok {v : V} {r : RV} {d : D} (h : Ok G xa fx B F H σ e) (q : HeldOk G F σ v r) (k : der e r = some d) : Bp G F H d v := by
  cases r with
  | sh d' => cases k; exact .inl q
  | fr xs => cases k
  | bo i =>
    have hi : σ[i]? = some (some v) := q
    cases he : e[i]? with
    | none => simp [der, he] at k
    | some s =>
      cases s with
      | ow xs =>
        simp [der, he] at k
        obtain ⟨a, vs, e1, f, hh, r, q⟩ := h.sl i _ _ he hi
        cases e1
        exact .inr ⟨a, xs, vs, rfl, k.symm, hh, r⟩
      | sh d' =>
        simp [der, he] at k
        subst k
        obtain ⟨v', e1, rp⟩ := h.sl i _ _ he hi
        cases e1
        exact .inl rp
      | un => simp [der, he] at k
      | ob c fs => simp [der, he] at k
      | ex c fs => simp [der, he] at k
theorem HeldOk.mono (s : Same F F') {v : V} {r : RV} (h : HeldOk G F σ v r) : HeldOk G F' σ v r := by
  cases r with
  | sh d => exact Rp.mono s h
  | fr _ => exact h
  | bo i => exact h
theorem Bp.lst {xs : List D} {v : V} (s : Same F H) (h : Bp G F H (.lst xs) v) : ∃ a vs, v = .ref a ∧ H a = some (.lst vs) ∧ RpL G F xs vs := by
  rcases h with h | ⟨a, ys, vs, e1, e2, hh, r⟩
  · cases h with
    | lst q r => exact ⟨_, _, rfl, s _ _ q, r⟩
  · cases e2; exact ⟨a, vs, e1, hh, r⟩
theorem Bp.scr {ns : List Int} {v : V} (s : Same F H) (h : Bp G F H (.scr ns) v) : ∃ a, v = .ref a ∧ SqL G.K H a (ns.map V.int) := by
  rcases h with h | ⟨a, ys, vs, e1, e2, hh, r⟩
  · cases h with
    | scr q => exact ⟨_, rfl, s.seq q⟩
  · cases e2
theorem Bp.tup {xs : List D} {v : V} (s : Same F H) (h : Bp G F H (.tup xs) v) : ∃ a vs, v = .ref a ∧ SqT G.K H a vs ∧ RpL G F xs vs := by
  rcases h with h | ⟨a, ys, vs, e1, e2, hh, r⟩
  · cases h with
    | tup q r => exact ⟨_, _, rfl, Same.seqT s q, r⟩
  · cases e2
theorem Bp.rpH {d : D} {v : V} (s : Same F H) (h : Bp G F H d v) : Rp G H d v := by
  rcases h with h | ⟨a, ys, vs, e1, e2, hh, r⟩
  · exact h.mono s
  · subst e1 e2; exact .lst hh (r.mono s)
theorem Bp.int {i : Int} {v : V} (h : Bp G F H (.int i) v) : v = .int i := by
  rcases h with h | ⟨a, ys, vs, e1, e2, hh, r⟩
  · cases h; rfl
  · cases e2
theorem Bp.bl {i : Bool} {v : V} (h : Bp G F H (.bl i) v) : v = .bl i := by
  rcases h with h | ⟨a, ys, vs, e1, e2, hh, r⟩
  · cases h; rfl
  · cases e2
theorem Bp.str {i : Str} {v : V} (h : Bp G F H (.str i) v) : v = .str i := by
  rcases h with h | ⟨a, ys, vs, e1, e2, hh, r⟩
  · cases h; rfl
  · cases e2
theorem Bp.non {v : V} (h : Bp G F H .non v) : v = .non := by
  rcases h with h | ⟨a, ys, vs, e1, e2, hh, r⟩
  · cases h; rfl
  · cases e2
end

section
variable {G : Gb} {xa : XA} {fx : List Nat} {B : Bs} {F H F' H' F1 : Hp} {σ σ' : St} {e e' : List Slot}
theorem own_set_ne {i j : Nat} {o : Option V} {s : Slot} {a : Addr} (hj : i ≠ j) (h : Own (e.set i s) (σ.set i o) j a) : Own e σ j a := by
  obtain ⟨q1, t, q2, q3⟩ := h
  rw [List.getElem?_set_ne hj] at q1 q2
  exact ⟨q1, t, q2, q3⟩
/-- a name is given a value -/
theorem Ok.put {i : Nat} {vv : V} {s : Slot} (h : Ok G xa fx B F H σ e) (hi : i ∉ fx) (hs : SlotOk G xa fx B F H i (some vv) s) (ho : isOw s = true → ∀ a, vv = .ref a → ∀ j, ¬ Own e σ j a) : Ok G xa fx B F H (σ.set i (some vv)) (e.set i s) where
  same := h.same
  sF := h.sF
  kH := h.kH
  dom := h.dom
  domE := h.domE
  nF := h.nF
  len := by rw [List.length_set, List.length_set]; exact h.len
  sl := fun j t o h1 h2 => by
    by_cases hj : i = j
    · subst hj
      have hl : i < e.length := by have := (List.getElem?_eq_some_iff.mp h1).1; rwa [List.length_set] at this
      rw [List.getElem?_set_self hl] at h1; cases h1
      rw [List.getElem?_set_self (by rw [h.len]; exact hl)] at h2; cases h2
      exact hs
    · rw [List.getElem?_set_ne hj] at h1 h2; exact h.sl j t o h1 h2
  dj := fun j k a n h1 h2 => by
    have self : ∀ {m}, i = m → Own (e.set i s) (σ.set i (some vv)) m a → isOw s = true ∧ vv = .ref a := fun {m} hm ⟨q1, t, q2, q3⟩ => by
      subst hm
      have hl : i < e.length := by have := (List.getElem?_eq_some_iff.mp q2).1; rwa [List.length_set] at this
      rw [List.getElem?_set_self hl] at q2; cases q2
      rw [List.getElem?_set_self (by rw [h.len]; exact hl)] at q1; cases q1
      exact ⟨q3, rfl⟩
    by_cases hj : i = j
    · obtain ⟨k1, k2⟩ := self hj h1
      exact ho k1 a k2 k (own_set_ne (fun z => n (hj.symm.trans z)) h2)
    · by_cases hk : i = k
      · obtain ⟨k1, k2⟩ := self hk h2
        exact ho k1 a k2 j (own_set_ne hj h1)
      · exact h.dj j k a n (own_set_ne hj h1) (own_set_ne hk h2)
  fix := fun j hj => by
    have hne : i ≠ j := fun z => by
      rw [z] at hi
      exact hi hj
    rw [List.getElem?_set_ne hne]
    exact h.fix j hj
theorem Ok.putS {i : Nat} {vv : V} {d : D} (h : Ok G xa fx B F H σ e) (hi : i ∉ fx) (r : Rp G F d vv) : Ok G xa fx B F H (σ.set i (some vv)) (e.set i (.sh d)) :=
  h.put hi ⟨vv, rfl, r⟩ fun z => nomatch z
theorem Ok.putR {i : Nat} {vv : V} {xs : List D} (h : Ok G xa fx B F H σ e) (hi : i ∉ fx) (r : RvOk G B F H σ e vv (.fr xs)) : Ok G xa fx B F H (σ.set i (some vv)) (e.set i (.ow xs)) := by
  obtain ⟨a, vs, e1, h1, h2, h3, h4, h5, h6⟩ := r
  exact h.put hi ⟨a, vs, by rw [e1], h1, h2, h3, h4, .inr h5⟩ fun _ b eb j => by
    have : a = b := by rw [e1] at eb; cases eb; rfl
    subst this
    exact h6 j
/-- what a name owns is changed -/
theorem Ok.change {i : Nat} {a : Addr} {s t : Slot} {u : HO} (h : Ok G xa fx B F H σ e) (hi : σ[i]? = some (some (.ref a))) (he : e[i]? = some s) (hs : isOw s = true)
    (ht : SlotOk G xa fx B F (upd H a u) i (some (.ref a)) t) : Ok G xa fx B F (upd H a u) σ (e.set i t) := by
  have o : Own e σ i a := ⟨hi, s, he, hs⟩
  obtain ⟨hHa, hFa⟩ := h.own_there o
  have hl : i < e.length := (List.getElem?_eq_some_iff.mp he).1
  have bo : B.H a = none ∨ a ∈ B.O := by
    have z := h.sl i s _ he hi
    cases s with
    | ow xs => obtain ⟨b, vs, e1, f, hh, r, q, _⟩ := z; cases e1; exact q
    | ob c fs => obtain ⟨b, C, dx, vfs, e1, f, hh, m, r, q, _⟩ := z; cases e1; exact q
    | _ => cases hs
  refine ⟨fun b o q => ?_, h.sF, fun b o q n => ?_, fun b q z => ?_, fun b q z => ?_, h.nF, by rw [List.length_set]; exact h.len, fun j t' o h1 h2 => ?_, fun j k b n h1 h2 => ?_, h.fix⟩
  · have hb : b ≠ a := fun z => by rw [z, hFa] at q; cases q
    rw [upd_ne hb]; exact h.same b o q
  · have hb : b ≠ a := fun z => by
      subst z
      rcases bo with k | k
      · rw [k] at q; cases q
      · exact n k
    rw [upd_ne hb]; exact h.kH b o q n
  · by_cases hb : b = a
    · subst hb; rw [upd_same] at z; cases z
    · rw [upd_ne hb] at z; exact h.dom b q z
  · by_cases hb : b = a
    · subst hb; rw [upd_same] at z; cases z
    · rw [upd_ne hb] at z; exact h.domE b q z
  · by_cases hj : i = j
    · subst hj
      rw [List.getElem?_set_self hl] at h1; cases h1
      rw [hi] at h2; cases h2
      exact ht
    · rw [List.getElem?_set_ne hj] at h1
      have z := h.sl j t' o h1 h2
      have ne : ∀ b, o = some (.ref b) → isOw t' = true → b ≠ a := fun b eo hs' q => h.dj i j a hj ⟨hi, s, he, hs⟩ ⟨by rw [h2, eo, q], t', h1, hs'⟩
      cases t' with
      | un => trivial
      | sh d => exact z
      | ow xs => obtain ⟨b, vs, e1, f, hh, r, q⟩ := z; exact ⟨b, vs, e1, f, by rw [upd_ne (ne b e1 rfl)]; exact hh, r, q⟩
      | ob c fs => obtain ⟨b, C, dx, vfs, e1, f, hh, m, r, q⟩ := z; exact ⟨b, C, dx, vfs, e1, f, by rw [upd_ne (ne b e1 rfl)]; exact hh, m, r, q⟩
      | ex c fs => exact z
  · have key : ∀ m, Own (e.set i t) σ m b → Own e σ m b := fun m ⟨q1, t', q2, q3⟩ => by
      by_cases hm : i = m
      · subst hm; exact ⟨q1, s, he, hs⟩
      · rw [List.getElem?_set_ne hm] at q2; exact ⟨q1, t', q2, q3⟩
    exact h.dj j k b n (key j h1) (key k h2)
/-- the addresses that names own -/
def ownL (e : List Slot) (σ : St) : List Addr := (List.range e.length).filterMap fun (i : Nat) => match σ[i]?, e[i]? with
  | some (some (V.ref a)), some s => if isOw s then some a else none
  | _, _ => none
theorem ownL_iff {a : Addr} : a ∈ ownL e σ ↔ ∃ i, Own e σ i a := by
  unfold ownL
  rw [List.mem_filterMap]
  constructor
  · rintro ⟨i, _, h⟩
    split at h
    · rename_i b s h1 h2
      split at h
      · rename_i h3
        cases h
        exact ⟨i, h1, s, h2, h3⟩
      · cases h
    · cases h
  · rintro ⟨i, h1, s, h2, h3⟩
    refine ⟨i, List.mem_range.mpr (List.getElem?_eq_some_iff.mp h2).1, ?_⟩
    rw [h1, h2]
    simp [h3]
/-- from here on: what stands is kept but for what names own -/
def here (B : Bs) (F H : Hp) (σ : St) (e : List Slot) : Bs := ⟨F, H, ownL e σ, σ, B.E⟩
theorem Ok.here (h : Ok G xa fx B F H σ e) : Ok G xa fx (here B F H σ e) F H σ e where
  same := h.same
  sF := Same.refl _
  kH := fun _ _ q _ => q
  dom := fun _ q => q
  domE := h.domE
  nF := fun _ q _ _ => q
  len := h.len
  sl := fun i s o h1 h2 => by
    have z := h.sl i s o h1 h2
    cases s with
    | un => trivial
    | sh d => exact z
    | ow xs => obtain ⟨b, vs, e1, f, hh, r, q, q2⟩ := z; exact ⟨b, vs, e1, f, hh, r, .inr (ownL_iff.mpr ⟨i, by rw [h2, e1], _, h1, rfl⟩), q2⟩
    | ob c fs => obtain ⟨b, C, dx, vfs, e1, f, hh, m, r, q, q2⟩ := z; exact ⟨b, C, dx, vfs, e1, f, hh, m, r, .inr (ownL_iff.mpr ⟨i, by rw [h2, e1], _, h1, rfl⟩), q2⟩
    | ex c fs => exact z
  dj := h.dj
  fix := fun _ _ => rfl
theorem Ok.own_base (h : Ok G xa fx B F H σ e) {a : Addr} (m : a ∈ ownL e σ) : B.H a = none ∨ a ∈ B.O := by
  obtain ⟨i, h1, s, h2, h3⟩ := ownL_iff.mp m
  have z := h.sl i s _ h2 h1
  cases s with
  | ow xs => obtain ⟨b, vs, e1, f, hh, r, q, _⟩ := z; cases e1; exact q
  | ob c fs => obtain ⟨b, C, dx, vfs, e1, f, hh, m, r, q, _⟩ := z; cases e1; exact q
  | _ => cases h3
theorem Ok.back (h : Ok G xa fx B F H σ e) (k : Ok G xa fx (DL.here B F H σ e) F' H' σ' e') : Ok G xa fx B F' H' σ' e' where
  same := k.same
  sF := h.sF.trans k.sF
  kH := fun b o q n => k.kH b o (h.kH b o q n) fun m => by
    rcases h.own_base m with z | z
    · rw [z] at q; cases q
    · exact n z
  dom := fun b q => k.dom b (h.dom b q)
  domE := k.domE
  nF := fun b h1 h2 h3 => k.nF b (h.nF b h1 h2 h3) (h.dom b h2) fun m => by
    rcases h.own_base m with z | z
    · exact h2 z
    · exact h3 z
  len := k.len
  sl := fun i s o h1 h2 => by
    have z := k.sl i s o h1 h2
    have bb : ∀ {b}, (H b = none ∨ b ∈ ownL e σ) → B.H b = none ∨ b ∈ B.O := fun {b} q => q.elim (fun q => .inl (h.fresh q)) fun q => h.own_base q
    cases s with
    | un => trivial
    | sh d => exact z
    | ow xs => obtain ⟨b, vs, e1, f, hh, r, q, q2⟩ := z; exact ⟨b, vs, e1, f, hh, r, bb q, q2⟩
    | ob c fs => obtain ⟨b, C, dx, vfs, e1, f, hh, m, r, q, q2⟩ := z; exact ⟨b, C, dx, vfs, e1, f, hh, m, r, bb q, q2⟩
    | ex c fs => exact z
  dj := k.dj
  fix := fun i hi => (k.fix i hi).trans (h.fix i hi)
end

/-! ### readings -/
section
variable (G : Gb) (xa : XA) (fx : List Nat) (W : WX)
def Post {α : Type} (B : Bs) (F : Hp) (σ : St) (Kx : Hp → Hp → List Slot → α → Prop) : Out α → Prop
  | .ok a e => ∀ F' H', Same F F' → Ok G xa fx B F' H' σ e → Kx F' H' e a
  | .ex c fs e => ∀ F' H' cls d, Same F F' → Ok G xa fx B F' H' σ e → ExOk G F' c fs cls d → W cls d σ H'
  | .st => False
def rd {α : Type} (f : M α) (σ : St) (H : Hp) (Kx : Bs → Hp → Hp → List Slot → α → Prop) : Prop := ∃ B F e, Ok G xa fx B F H σ e ∧ Post G xa fx W B F σ (Kx B) (f e)
def rdE (f : M RV) : TE := fun σ H Q => rd G xa fx W f σ H fun B F' H' e r => ∀ v, RvOk G B F' H' σ e v r → Q v H'
def rdT (f : M Bool) : TT := fun σ H Q => rd G xa fx W f σ H fun _ _ H' _ b => Q b H'
inductive HeldL (F : Hp) (σ : St) : List V → List RV → Prop
  | nil : HeldL F σ [] []
  | cons {v : V} {r : RV} {vs : List V} {rs : List RV} : HeldOk G F σ v r → HeldL F σ vs rs → HeldL F σ (v :: vs) (r :: rs)
def rdA (f : M (List RV)) : TA := fun σ H Q => rd G xa fx W f σ H fun _ F' H' _ rs => ∀ vs, HeldL G F' σ vs rs → Q vs H'
end
section
variable {G : Gb} {xa : XA} {fx : List Nat} {W : WX} {B : Bs} {F H F' H' F1 : Hp} {σ : St} {e : List Slot}
theorem Post.mono {α : Type} {Kx : Hp → Hp → List Slot → α → Prop} {o : Out α} (s : Same F F1) (h : Post G xa fx W B F σ Kx o) : Post G xa fx W B F1 σ Kx o := by
  cases o with
  | ok a e => exact fun F' H' s' k => h F' H' (s.trans s') k
  | ex c fs e => exact fun F' H' cls d s' k x => h F' H' cls d (s.trans s') k x
  | st => exact h
theorem Post.imp {α : Type} {Kx Kx' : Hp → Hp → List Slot → α → Prop} {o : Out α} (h : Post G xa fx W B F σ Kx o) (k : ∀ F' H' e a, Ok G xa fx B F' H' σ e → Kx F' H' e a → Kx' F' H' e a) : Post G xa fx W B F σ Kx' o := by
  cases o with
  | ok a e => exact fun F' H' s' q => k _ _ _ _ q (h F' H' s' q)
  | ex c fs e => exact h
  | st => exact h
theorem rd.imp {α : Type} {f : M α} {Kx Kx' : Bs → Hp → Hp → List Slot → α → Prop} (h : rd G xa fx W f σ H Kx) (k : ∀ B F' H' e a, Ok G xa fx B F' H' σ e → Kx B F' H' e a → Kx' B F' H' e a) : rd G xa fx W f σ H Kx' := by
  obtain ⟨B, F, e, o, p⟩ := h
  exact ⟨B, F, e, o, p.imp (k B)⟩
theorem p_bnd {α β : Type} {m : M α} {k : α → M β} {Kx : Hp → Hp → List Slot → β → Prop} (o : Ok G xa fx B F H σ e) (p : Post G xa fx W B F σ Kx (bnd m k e)) :
    rd G xa fx W m σ H fun B' F1 H1 e1 a => B' = B ∧ Same F F1 ∧ Ok G xa fx B F1 H1 σ e1 ∧ Post G xa fx W B F1 σ Kx (k a e1) := by
  refine ⟨B, F, e, o, ?_⟩
  unfold bnd at p
  cases q : m e with
  | ok a e' =>
    rw [q] at p
    exact fun F' H' s k => ⟨rfl, s, k, p.mono s⟩
  | ex c fs e' => rw [q] at p; exact p
  | st => rw [q] at p; exact p
/-- a held value, then the rest -/
theorem p_bh {β : Type} {m : M RV} {k : RV → M β} {Kx : Hp → Hp → List Slot → β → Prop} (o : Ok G xa fx B F H σ e) (p : Post G xa fx W B F σ Kx (bh m k e)) :
    rdE G xa fx W m σ H fun v H1 => ∃ F1 e1 r, Same F F1 ∧ Ok G xa fx B F1 H1 σ e1 ∧ HeldOk G F1 σ v r ∧ Post G xa fx W B F1 σ Kx (k r e1) := by
  refine (p_bnd o p).imp fun B' F1 H1 e1 a _ ⟨eb, s, o, p⟩ v rv => ?_
  subst eb
  obtain ⟨F2, s2, o2, hd⟩ := hold_ok o rv
  exact ⟨F2, e1, _, s.trans s2, o2, hd, p.mono s2⟩
/-- .. a value as it is -/
theorem p_be {β : Type} {m : M RV} {k : RV → M β} {Kx : Hp → Hp → List Slot → β → Prop} (o : Ok G xa fx B F H σ e) (p : Post G xa fx W B F σ Kx (bnd m k e)) :
    rdE G xa fx W m σ H fun v H1 => ∃ F1 e1 r, Same F F1 ∧ Ok G xa fx B F1 H1 σ e1 ∧ RvOk G B F1 H1 σ e1 v r ∧ Post G xa fx W B F1 σ Kx (k r e1) :=
  (p_bnd o p).imp fun B' F1 H1 e1 a _ ⟨eb, s, o, p⟩ v rv => ⟨F1, e1, _, s, o, eb ▸ rv, p⟩
theorem p_bt {β : Type} {m : M Bool} {k : Bool → M β} {Kx : Hp → Hp → List Slot → β → Prop} (o : Ok G xa fx B F H σ e) (p : Post G xa fx W B F σ Kx (bnd m k e)) :
    rdT G xa fx W m σ H fun b H1 => ∃ F1 e1, Same F F1 ∧ Ok G xa fx B F1 H1 σ e1 ∧ Post G xa fx W B F1 σ Kx (k b e1) :=
  (p_bnd o p).imp fun B' F1 H1 e1 a _ ⟨eb, s, o, p⟩ => ⟨F1, e1, s, o, p⟩
theorem p_ba {β : Type} {m : M (List RV)} {k : List RV → M β} {Kx : Hp → Hp → List Slot → β → Prop} (o : Ok G xa fx B F H σ e) (p : Post G xa fx W B F σ Kx (bnd m k e)) :
    rdA G xa fx W m σ H fun vs H1 => ∃ F1 e1 rs, Same F F1 ∧ Ok G xa fx B F1 H1 σ e1 ∧ HeldL G F1 σ vs rs ∧ Post G xa fx W B F1 σ Kx (k rs e1) :=
  (p_bnd o p).imp fun B' F1 H1 e1 a _ ⟨eb, s, o, p⟩ vs rv => ⟨F1, e1, _, s, o, rv, p⟩
theorem HeldL.mono (s : Same F F') : ∀ {vs : List V} {rs : List RV}, HeldL G F σ vs rs → HeldL G F' σ vs rs
  | _, _, .nil => .nil
  | _, _, .cons h r => .cons (h.mono s) (HeldL.mono s r)
end
end DL
set_option Elab.async false
set_option linter.all false
set_option maxRecDepth 100000
set_option maxHeartbeats 1000000
noncomputable section
namespace DL
open PySem PySem.Spec L2
open PyProof.Rows hiding St
set_option autoImplicit false

/-! ### what the operators do with data -/
def addD : D → D → Option RV
  | .int i, .int j => some (.sh (.int (i + j)))
  | .str a, .str b => if gd (a.length + b.length ≤ 100000) then some (.sh (.str (a ++ b))) else none
  | .lst a, .lst b => if gd (a.length + b.length ≤ 100000) then some (.fr (a ++ b)) else none
  | .tup a, .tup b => if gd (a.length + b.length ≤ 100000) then some (.sh (.tup (a ++ b))) else none
  | _, _ => none
def subD : D → D → Option RV
  | .int i, .int j => some (.sh (.int (i - j)))
  | _, _ => none
def mulD : D → D → Option RV
  | .int i, .int j => if gd (-(2 ^ 64) < j ∧ j < 2 ^ 64) then some (.sh (.int (i * j))) else none
  | _, _ => none
def divD : D → D → Option RV
  | .int i, .int j => if gd (0 < j ∧ j < 1073741824) then some (.sh (.int (i / j))) else none
  | _, _ => none
def modD : D → D → Option RV
  | .int i, .int j => if 0 < j then some (.sh (.int (i % j))) else none
  | _, _ => none
def powD : D → D → Option RV
  | .int i, .int j => if gd (0 ≤ j ∧ j ≤ 1000000 ∧ i.natAbs < 2 ^ 64) then some (.sh (.int (i ^ j.toNat))) else none
  | _, _ => none
def cmpD (p : Int → Int → Bool) : D → D → Option RV
  | .int i, .int j => some (.sh (.bl (p i j)))
  | _, _ => none
abbrev ltD := cmpD fun i j => decide (i < j)
abbrev leD := cmpD fun i j => decide (i ≤ j)
abbrev gtD := cmpD fun i j => decide (j < i)
abbrev geD := cmpD fun i j => decide (j ≤ i)
def eqB : D → D → Option Bool
  | .int i, .int j => some (decide (i = j))
  | .str i, .str j => some (decide (i = j))
  | .bl i, .bl j => some (decide (i = j))
  | .bl _, _ => none
  | _, .bl _ => none
  | a, b => if a.ok && b.ok then some (decide (a = b)) else none
def eqD (a b : D) : Option RV := (eqB a b).map fun k => .sh (.bl k)
def neD (a b : D) : Option RV := (eqB a b).map fun k => .sh (.bl (!k))
def flat : D → Bool
  | .non => true
  | .int _ => true
  | .str _ => true
  | _ => false
def inB (x : D) : D → Option Bool
  | .lst ys => if flat x && ys.all flat then some (decide (x ∈ ys)) else if x.ok && (D.lst ys).ok then some (decide (x ∈ ys)) else none
  | .tup ys => if flat x && ys.all flat then some (decide (x ∈ ys)) else none
  | _ => none
def inD (a b : D) : Option RV := (inB a b).map fun k => .sh (.bl k)
def ninD (a b : D) : Option RV := (inB a b).map fun k => .sh (.bl (!k))
def isND (a b : D) : Option RV := match b with
  | .non => some (.sh (.bl (decide (a = .non))))
  | _ => none
def notND (a b : D) : Option RV := match b with
  | .non => some (.sh (.bl (!decide (a = .non))))
  | _ => none
def idxD : D → D → Option RV
  | .lst xs, .int i => (atI xs i).map .sh
  | .tup xs, .int i => (atI xs i).map .sh
  | .scr ns, .int i => (atI ns i).map fun n => .sh (.int n)
  | _, _ => none

def OpOk (G : Gb) (r : R2) (g : D → D → Option RV) : Prop := ∀ F H x y d1 d2 res Q, Same F H → Bp G F H d1 x → Bp G F H d2 y → g d1 d2 = some res →
  (∀ F' H' v, Ext F H F' H' → NewOk G H F' H' v res → Q v H') → r x y H Q

section
variable {G : Gb} {F H : Hp}
theorem nw_sc {d : D} {v : V} {Q : VK} (s : Same F H) (r : Rp G F d v) (h : ∀ F' H' v, Ext F H F' H' → NewOk G H F' H' v (.sh d) → Q v H') : Q v H := h F H v (Ext.refl s) r
theorem nw_fr {xs : List D} {vs : List V} {Q : VK} (s : Same F H) (r : RpL G F xs vs) (h : ∀ F' H' v, Ext F H F' H' → NewOk G H F' H' v (.fr xs) → Q v H') : ∀ p, H p = none → Q (.ref p) (upd H p (.lst vs)) := fun p hp =>
  h F _ _ (Ext.new s hp) ⟨p, vs, rfl, hp, s.free hp, upd_same, r⟩
theorem nw_tup {xs : List D} {vs : List V} {Q : VK} (s : Same F H) (r : RpL G F xs vs) (h : ∀ F' H' v, Ext F H F' H' → NewOk G H F' H' v (.sh (.tup xs)) → Q v H') : ∀ p, H p = none → Q (.ref p) (upd H p (.tup vs)) := fun p hp =>
  h _ _ _ (Ext.newF s hp) (Rp.tup (SqT.of upd_same) (r.mono (Ext.newF s hp).sF))

abbrev rAddStr : R2 := fun x y H Q => ∃ i j, x = .str i ∧ y = .str j ∧ i.length + j.length ≤ sizeLine ∧ Q (.str (i ++ j)) H
abbrev rAddAll (K : PySem.W.Frag) : R2 := fun x y H Q => rI0 (fun i j => .int (i + j)) x y H Q ∨ (rAddStr x y H Q ∨ (rCat x y H Q ∨ rCatA K x y H Q))
theorem op_addAll {X : Cx} : OpR X (binaryOp .Add) (rAddAll X.K) := op_add.or (op_add_str.or (op_cat.or op_catA))
theorem size_le {n : Nat} (h : n ≤ 100000) : n ≤ sizeLine := Nat.le_trans h (by decide)
theorem ok_add : OpOk G (rAddAll G.K) addD := by
  intro F H x y d1 d2 res Q s b1 b2 h q
  unfold addD at h
  split at h
  · cases h
    exact .inl ⟨_, _, b1.int, b2.int, nw_sc s (.int _) q⟩
  · split at h
    · rename_i hz
      cases h
      exact .inr (.inl ⟨_, _, b1.str, b2.str, size_le hz, nw_sc s (.str _) q⟩)
    · cases h
  · split at h
    · rename_i hz
      cases h
      obtain ⟨a1, v1, e1, h1, r1⟩ := b1.lst s
      obtain ⟨a2, v2, e2, h2, r2⟩ := b2.lst s
      rw [r1.length, r2.length] at hz
      exact .inr (.inr (.inl ⟨a1, a2, v1, v2, e1, e2, h1, h2, size_le hz, nw_fr s (r1.append r2) q⟩))
    · cases h
  · split at h
    · rename_i hz
      cases h
      obtain ⟨a1, v1, e1, h1, r1⟩ := b1.tup s
      obtain ⟨a2, v2, e2, h2, r2⟩ := b2.tup s
      rw [r1.length, r2.length] at hz
      refine .inr (.inr (.inr ⟨a1, a2, v1, v2, e1, e2, h1, h2, size_le hz, fun z => ?_, fun _ z => ?_, fun _ _ => nw_tup s (r1.append r2) q⟩))
      · subst z
        cases r1
        rcases b2 with b2 | ⟨_, _, _, _, z, _⟩
        · rw [← e2]; exact nw_sc s b2 q
        · cases z
      · subst z
        cases r2
        rcases b1 with b1 | ⟨_, _, _, _, z, _⟩
        · rw [← e1]
          refine nw_sc s b1 (fun F' H' v x n => q F' H' v x ?_)
          rw [List.append_nil]
          exact n
        · cases z
    · cases h
  · cases h
theorem ok_sub : OpOk G (rI0 fun i j => .int (i - j)) subD := by
  intro F H x y d1 d2 res Q s b1 b2 h q
  unfold subD at h
  split at h
  · cases h
    exact ⟨_, _, b1.int, b2.int, nw_sc s (.int _) q⟩
  · cases h
theorem ok_mul : OpOk G (rI CMul fun i j => .int (i * j)) mulD := by
  intro F H x y d1 d2 res Q s b1 b2 h q
  unfold mulD at h
  split at h
  · split at h
    · rename_i hz
      cases h
      exact ⟨_, _, b1.int, b2.int, .inr hz, nw_sc s (.int _) q⟩
    · cases h
  · cases h
theorem ok_div : OpOk G (rI CDiv fun i j => .int (i / j)) divD := by
  intro F H x y d1 d2 res Q s b1 b2 h q
  unfold divD at h
  split at h
  · split at h
    · rename_i hz
      cases h
      exact ⟨_, _, b1.int, b2.int, hz, nw_sc s (.int _) q⟩
    · cases h
  · cases h
theorem ok_mod : OpOk G (rI (fun _ j => 0 < j) fun i j => .int (i % j)) modD := by
  intro F H x y d1 d2 res Q s b1 b2 h q
  unfold modD at h
  split at h
  · split at h
    · rename_i hz
      cases h
      exact ⟨_, _, b1.int, b2.int, hz, nw_sc s (.int _) q⟩
    · cases h
  · cases h
theorem ok_pow : OpOk G (rI CPow fun i j => .int (i ^ j.toNat)) powD := by
  intro F H x y d1 d2 res Q s b1 b2 h q
  unfold powD at h
  split at h
  · split at h
    · rename_i hz
      cases h
      exact ⟨_, _, b1.int, b2.int, hz, nw_sc s (.int _) q⟩
    · cases h
  · cases h
theorem ok_cmp (p : Int → Int → Bool) : OpOk G (rI0 fun i j => .bl (p i j)) (cmpD p) := by
  intro F H x y d1 d2 res Q s b1 b2 h q
  unfold cmpD at h
  split at h
  · cases h
    exact ⟨_, _, b1.int, b2.int, nw_sc s (.bl _) q⟩
  · cases h
abbrev rEqAll (K : PySem.W.Frag) : R2 := fun x y H Q => rEq x y H Q ∨ rEqD K x y H Q
abbrev rNeAll (K : PySem.W.Frag) : R2 := fun x y H Q => rNe x y H Q ∨ rNeD K x y H Q
theorem deep {d : D} {v : V} (s : Same F H) (b : Bp G F H d v) (h : d.ok = true) : Dp G.K H v d.py := (b.rpH s).dp (by simp only [D.ok, Bool.and_eq_true] at h; exact h.1)
theorem eqB_ok {x y : V} {d1 d2 : D} {k : Bool} (s : Same F H) (b1 : Bp G F H d1 x) (b2 : Bp G F H d2 y) (h : eqB d1 d2 = some k) :
    (scal x y = true ∧ decide (x = y) = k) ∨ (∃ d e, Dp G.K H x d ∧ Dp G.K H y e ∧ SeqAt.shaped d = true ∧ SeqAt.shaped e = true ∧ PyData.eqv d e = k) := by
  unfold eqB at h
  split at h
  · cases h
    cases b1.int; cases b2.int
    exact .inl ⟨rfl, by simp⟩
  · cases h
    cases b1.str; cases b2.str
    exact .inl ⟨rfl, by simp⟩
  · cases h
    cases b1.bl; cases b2.bl
    exact .inl ⟨rfl, by simp⟩
  · cases h
  · cases h
  · split at h
    · rename_i hz
      cases h
      rw [Bool.and_eq_true] at hz
      exact .inr ⟨_, _, deep s b1 hz.1, deep s b2 hz.2, D.shaped hz.1, D.shaped hz.2, D.eqv_ok hz.1 hz.2⟩
    · cases h
theorem ok_eq : OpOk G (rEqAll G.K) eqD := by
  intro F H x y d1 d2 res Q s b1 b2 h q
  unfold eqD at h
  cases e : eqB d1 d2 with
  | none => rw [e] at h; cases h
  | some k =>
    rw [e] at h; cases h
    rcases eqB_ok s b1 b2 e with ⟨h1, h2⟩ | ⟨d, e, h1, h2, h3, h4, h5⟩
    · exact .inl ⟨h1, by rw [h2]; exact nw_sc s (.bl _) q⟩
    · exact .inr ⟨d, e, h1, h2, h3, h4, by rw [h5]; exact nw_sc s (.bl _) q⟩
theorem ok_ne : OpOk G (rNeAll G.K) neD := by
  intro F H x y d1 d2 res Q s b1 b2 h q
  unfold neD at h
  cases e : eqB d1 d2 with
  | none => rw [e] at h; cases h
  | some k =>
    rw [e] at h; cases h
    rcases eqB_ok s b1 b2 e with ⟨h1, h2⟩ | ⟨d, e, h1, h2, h3, h4, h5⟩
    · exact .inl ⟨h1, by rw [h2]; exact nw_sc s (.bl _) q⟩
    · exact .inr ⟨d, e, h1, h2, h3, h4, by rw [h5]; exact nw_sc s (.bl _) q⟩
theorem flat_v {d : D} {v : V} (r : Rp G F d v) (h : flat d = true) : flatV v = true := by
  cases r <;> first | rfl | cases h
theorem flat_eq {d e : D} {v w : V} (r : Rp G F d v) (r' : Rp G F e w) (h : flat d = true) (h' : flat e = true) : eqV v w = decide (d = e) := by
  cases r <;> first | (cases h; done) | skip
  all_goals (cases r' <;> first | (cases h'; done) | skip)
  all_goals first | (simp [eqV]; done) | (simp [eqV, Bool.beq_eq_decide_eq]; done)
theorem flat_all : ∀ {ds : List D} {vs : List V}, RpL G F ds vs → ds.all flat = true → vs.all flatV = true
  | _, _, .nil, _ => rfl
  | _, _, .cons r t, h => by
    rw [List.all_cons, Bool.and_eq_true] at h ⊢
    exact ⟨flat_v r h.1, flat_all t h.2⟩
theorem flat_in {d : D} {v : V} (r : Rp G F d v) (h : flat d = true) : ∀ {ds : List D} {vs : List V}, RpL G F ds vs → ds.all flat = true → inV v vs = decide (d ∈ ds)
  | _, _, .nil, _ => by simp [inV]
  | _, _, .cons (d := e) (ds := ds) r' t, hh => by
    rw [List.all_cons, Bool.and_eq_true] at hh
    have ih := flat_in r h t hh.2
    unfold inV at ih ⊢
    rw [List.any_cons, ih, flat_eq r' r hh.1 h]
    by_cases e1 : e = d
    · subst e1; simp
    · have e2 : ¬ d = e := fun z => e1 z.symm
      simp [e1, e2]
theorem flat_bp {d : D} {v : V} (b : Bp G F H d v) (h : flat d = true) : Rp G F d v := by
  rcases b with b | ⟨_, _, _, _, z, _⟩
  · exact b
  · subst z; cases h
theorem any_dec (x : D) (hx : x.pur = true) : ∀ ys : List D, purL ys = true → ((pyL ys).any fun z => PyData.eqv z x.py) = decide (x ∈ ys)
  | [], _ => by simp [pyL]
  | y :: ys, h => by
    simp only [purL, Bool.and_eq_true] at h
    simp only [pyL, List.any_cons, D.eqv y x h.1 hx, any_dec x hx ys h.2, beq_dec]
    by_cases e1 : y = x
    · subst e1; simp
    · have e2 : ¬ x = y := fun z => e1 z.symm
      simp [e1, e2]
abbrev rInAll (K : PySem.W.Frag) : R2 := fun x y H Q => rIn K false x y H Q ∨ rInD K x y H Q
abbrev rNinAll (K : PySem.W.Frag) : R2 := fun x y H Q => rIn K true x y H Q ∨ rNotInD K x y H Q
theorem inB_ok {x y : V} {d1 d2 : D} {k : Bool} (s : Same F H) (b1 : Bp G F H d1 x) (b2 : Bp G F H d2 y) (h : inB d1 d2 = some k) :
    (∃ p xs, y = .ref p ∧ (SqL G.K H p xs ∨ SqT G.K H p xs) ∧ flatV x = true ∧ xs.all flatV = true ∧ inV x xs = k) ∨
    (∃ d ds, Dp G.K H x d ∧ Dp G.K H y (.list ds) ∧ SeqAt.shaped d = true ∧ SeqAt.shaped (.list ds) = true ∧ (ds.any fun z => PyData.eqv z d) = k) := by
  unfold inB at h
  split at h
  · split at h
    · rename_i hz
      cases h
      rw [Bool.and_eq_true] at hz
      obtain ⟨a, vs, e, hl, r⟩ := b2.lst s
      have r1 := flat_bp b1 hz.1
      exact .inl ⟨a, vs, e, .inl (SqL.of hl), flat_v r1 hz.1, flat_all r hz.2, flat_in r1 hz.1 r hz.2⟩
    · split at h
      · rename_i hz
        cases h
        rw [Bool.and_eq_true] at hz
        have h1 : d1.pur = true := by have := hz.1; simp only [D.ok, Bool.and_eq_true] at this; exact this.1
        have h2 := hz.2
        simp only [D.ok, Bool.and_eq_true] at h2
        have h3 := deep s b2 hz.2
        have h4 := D.shaped hz.2
        simp only [D.py] at h3 h4
        exact .inr ⟨_, _, deep s b1 hz.1, h3, D.shaped hz.1, h4, any_dec d1 h1 _ (by have := h2.1; simpa [D.pur] using this)⟩
      · cases h
  · split at h
    · rename_i hz
      cases h
      rw [Bool.and_eq_true] at hz
      obtain ⟨a, vs, e, hl, r⟩ := b2.tup s
      have r1 := flat_bp b1 hz.1
      exact .inl ⟨a, vs, e, .inr hl, flat_v r1 hz.1, flat_all r hz.2, flat_in r1 hz.1 r hz.2⟩
    · cases h
  · cases h
theorem ok_in : OpOk G (rInAll G.K) inD := by
  intro F H x y d1 d2 res Q s b1 b2 h q
  unfold inD at h
  cases e : inB d1 d2 with
  | none => rw [e] at h; cases h
  | some k =>
    rw [e] at h; cases h
    rcases inB_ok s b1 b2 e with ⟨p, xs, h1, h2, h3, h4, h5⟩ | ⟨d, ds, h1, h2, h3, h4, h5⟩
    · refine .inl ⟨p, xs, h1, h2, h3, h4, ?_⟩
      rw [if_neg Bool.false_ne_true, h5]; exact nw_sc s (.bl _) q
    · exact .inr ⟨d, ds, h1, h2, h3, h4, by rw [h5]; exact nw_sc s (.bl _) q⟩
theorem ok_nin : OpOk G (rNinAll G.K) ninD := by
  intro F H x y d1 d2 res Q s b1 b2 h q
  unfold ninD at h
  cases e : inB d1 d2 with
  | none => rw [e] at h; cases h
  | some k =>
    rw [e] at h; cases h
    rcases inB_ok s b1 b2 e with ⟨p, xs, h1, h2, h3, h4, h5⟩ | ⟨d, ds, h1, h2, h3, h4, h5⟩
    · refine .inl ⟨p, xs, h1, h2, h3, h4, ?_⟩
      rw [if_pos rfl, h5]; exact nw_sc s (.bl _) q
    · exact .inr ⟨d, ds, h1, h2, h3, h4, by rw [h5]; exact nw_sc s (.bl _) q⟩
theorem non_iff {d : D} {v : V} (b : Bp G F H d v) : decide (v = V.non) = decide (d = D.non) := by
  rcases b with b | ⟨a, xs, vs, e1, e2, _⟩
  · cases b <;> simp
  · subst e1 e2; simp
theorem ok_isN : OpOk G (fun x y H Q => y = .non ∧ Q (.bl (decide (x = .non))) H) isND := by
  intro F H x y d1 d2 res Q s b1 b2 h q
  unfold isND at h
  split at h
  · cases h
    exact ⟨b2.non, by rw [non_iff b1]; exact nw_sc s (.bl _) q⟩
  · cases h
theorem ok_notN : OpOk G (fun x y H Q => y = .non ∧ Q (.bl (!decide (x = .non))) H) notND := by
  intro F H x y d1 d2 res Q s b1 b2 h q
  unfold notND at h
  split at h
  · cases h
    exact ⟨b2.non, by rw [non_iff b1]; exact nw_sc s (.bl _) q⟩
  · cases h
theorem atI_rp {ds : List D} {vs : List V} {i : Int} {d : D} (r : RpL G F ds vs) (h : atI ds i = some d) : ∃ v, atI vs i = some v ∧ Rp G F d v := by
  unfold atI at h ⊢
  rw [← r.length]
  cases e : ixN ds.length i with
  | none => rw [e] at h; cases h
  | some j =>
    rw [e] at h
    exact r.get h
theorem ok_idx : OpOk G (rIx G.K) idxD := by
  intro F H x y d1 d2 res Q s b1 b2 h q
  unfold idxD at h
  split at h
  · rename_i xs i
    cases e : atI xs i with
    | none => rw [e] at h; cases h
    | some d =>
      rw [e] at h; cases h
      obtain ⟨a, vs, e1, hl, r⟩ := b1.lst s
      obtain ⟨v, e2, rv⟩ := atI_rp r e
      exact .inl ⟨a, vs, i, v, e1, b2.int, SqL.of hl, e2, nw_sc s rv q⟩
  · rename_i xs i
    cases e : atI xs i with
    | none => rw [e] at h; cases h
    | some d =>
      rw [e] at h; cases h
      obtain ⟨a, vs, e1, hl, r⟩ := b1.tup s
      obtain ⟨v, e2, rv⟩ := atI_rp r e
      exact .inr (.inl ⟨a, vs, i, v, e1, b2.int, hl, e2, nw_sc s rv q⟩)
  · rename_i xs i
    cases e : atI xs i with
    | none => rw [e] at h; cases h
    | some d =>
      rw [e] at h; cases h
      obtain ⟨a, e1, hl⟩ := b1.scr s
      have e3 : atI (xs.map V.int) i = some (V.int d) := by
        unfold atI at e ⊢
        rw [List.length_map]
        cases e4 : ixN xs.length i with
        | none => rw [e4] at e; cases e
        | some j =>
          rw [e4] at e
          have e5 : xs[j]? = some d := e
          show (xs.map V.int)[j]? = _
          rw [List.getElem?_map, e5] <;> rfl
      exact .inl ⟨a, _, i, _, e1, b2.int, hl, e3, nw_sc s (.int _) q⟩
  · cases h
end
end DL
set_option Elab.async false
set_option linter.all false
set_option maxRecDepth 100000
set_option maxHeartbeats 1000000
noncomputable section
namespace DL
open PySem PySem.Spec L2
open PyProof.Rows hiding St
set_option autoImplicit false

/-! ### the place where code stands -/
structure Cp where
  N : List Str
  sc : Scope
  k : Nat
  cm : Bool
  top : Bool
  fx : List Nat
structure Good (G : Gb) (c : Cp) (xa : XA) (X : Cx) : Prop where
  prog : X.prog = G.P
  w : X.w = G.w
  K : X.K = G.K
  mg : X.mg = G.mg
  base : X.base = G.base
  hN : X.N = c.N
  sc : X.env.scope = c.sc
  cm : X.calm = c.cm
  room : c.cm = true → Room c.k X.A
  own : PassesOwn (model X.prog X.w) X.A X.env X.xe
  fn : c.top = true → ∀ x, X.fn x = true
  stk : c.top = true → X.stack = X.env :: X.outer ∧ X.env.frame = some X.env.locals
  xn : c.cm = true → xa = none
  hx : ∀ a cls d, xa = some (a, cls, d) → ∃ X0 oe pn, X = Cx.suite X0 a ((a, oe) :: pn) ∧ Zc cls d oe ∧ ∃ vs, oe.data = .fields vs
def DE (G : Gb) (c : Cp) (e : Expr) (f : M RV) : Prop := ∀ X xa, Good G c xa X → ∀ W, Takes X W → PE X e (rdE G xa c.fx W f)
def DT (G : Gb) (c : Cp) (e : Expr) (f : M Bool) : Prop := ∀ X xa, Good G c xa X → ∀ W, Takes X W → PT X e (rdT G xa c.fx W f)
def DW (G : Gb) (c : Cp) (e : Expr) (f : M Bool) : Prop := ∀ X xa, Good G c xa X → ∀ W, Takes X W → PW X e (rdT G xa c.fx W f)
def argsM : List (M RV) → M (List RV)
  | [] => fun e => .ok [] e
  | f :: fs => bh f fun r => bnd (argsM fs) fun rs => fun e => .ok (r :: rs) e
def DA (G : Gb) (c : Cp) (es : List Expr) (fs : List (M RV)) : Prop := ∀ X xa, Good G c xa X → ∀ W, Takes X W → PA X es (rdA G xa c.fx W (argsM fs))
theorem PE.weak {X : Cx} {e : Expr} {t t' : TE} (h : PE X e t) (k : ∀ σ H Q, t' σ H Q → t σ H Q) : PE X e t' := ⟨fun pins s σ H Q I q => h.run pins s σ H Q I (k σ H Q q)⟩
theorem PT.weak {X : Cx} {e : Expr} {t t' : TT} (h : PT X e t) (k : ∀ σ H Q, t' σ H Q → t σ H Q) : PT X e t' := ⟨fun pins s σ H Q I q => h.run pins s σ H Q I (k σ H Q q)⟩
theorem PW.weak {X : Cx} {e : Expr} {t t' : TT} (h : PW X e t) (k : ∀ σ H Q, t' σ H Q → t σ H Q) : PW X e t' := ⟨fun w pins s σ H Q I q => h.run w pins s σ H Q I (k σ H Q q)⟩
theorem PA.weak {X : Cx} {e : List Expr} {t t' : TA} (h : PA X e t) (k : ∀ σ H Q, t' σ H Q → t σ H Q) : PA X e t' := ⟨fun w pins s σ H Q I q => h.run w pins s σ H Q I (k σ H Q q)⟩
theorem PS.weak {X : Cx} {e : Stmt} {t t' : TS} (h : PS X e t) (k : ∀ D σ H, t' D σ H → t D σ H) : PS X e t' := ⟨fun pins s σ H D I q => h.run pins s σ H D I (k D σ H q)⟩
theorem PSs.weak {X : Cx} {e : List Stmt} {t t' : TS} (h : PSs X e t) (k : ∀ D σ H, t' D σ H → t D σ H) : PSs X e t' := ⟨fun pins s σ H D I q => h.run pins s σ H D I (k D σ H q)⟩

/-! ### combinators -/
def retD (r : RV) : M RV := fun e => .ok r e
def appD : Option RV → M RV := fun o e => match o with
  | some r => .ok r e
  | none => .st
/-- a constant -/
def kc (d : D) : M RV := retD (.sh d)
/-- a name -/
def v (i : Nat) : M RV := fun e => match e[i]? with
  | some (.sh d) => .ok (.sh d) e
  | some (.ow _) => .ok (.bo i) e
  | some (.ob _ _) => .ok (.bo i) e
  | _ => .st
def op2 (g : D → D → Option RV) (fa fb : M RV) : M RV := bh fa fun r1 => bh fb fun r2 => fun e => appD ((der e r1).bind fun d1 => (der e r2).bind fun d2 => g d1 d2) e
def asB (m : M RV) : M Bool := bnd m fun r => fun e => match r with
  | .sh (.bl b) => .ok b e
  | _ => .st
def ofB (m : M Bool) : M RV := bnd m fun b => retD (.sh (.bl b))
def andT (a b : M Bool) : M Bool := bnd a fun x => if x = true then b else fun e => .ok false e
def orT (a b : M Bool) : M Bool := bnd a fun x => if x = true then (fun e => .ok true e) else b
def notT (a : M Bool) : M Bool := bnd a fun x => fun e => .ok (!x) e
def andV (a b : M RV) : M RV := bnd (asB a) fun x => if x = true then b else kc (.bl false)
def orV (a b : M RV) : M RV := bnd (asB a) fun x => if x = true then kc (.bl true) else b
def notV (a : M RV) : M RV := bnd (asB a) fun x => kc (.bl (!x))
def chainE (g g' : D → D → Option RV) (fa fb fc : M RV) : M RV := bh fa fun r1 => bh fb fun r2 => fun e => match (der e r1).bind fun d1 => (der e r2).bind fun d2 => g d1 d2 with
  | some (.sh (.bl true)) => bh fc (fun r3 => fun e => appD ((der e r2).bind fun d2 => (der e r3).bind fun d3 => g' d2 d3) e) e
  | some (.sh (.bl false)) => .ok (.sh (.bl false)) e
  | _ => .st

section
variable {G : Gb} {c : Cp} {xa : XA} {fx : List Nat} {W : WX} {B : Bs} {F H F' H' F1 : Hp} {σ : St} {e : List Slot} {X : Cx}
theorem p_appD {o : Option RV} {Q : VK} (k : Ok G xa fx B F H σ e) (p : Post G xa fx W B F σ (fun F' H' e r => ∀ v, RvOk G B F' H' σ e v r → Q v H') (appD o e)) :
    ∃ res, o = some res ∧ ∀ F' H' v, Ext F H F' H' → NewOk G H F' H' v res → Q v H' := by
  unfold appD at p
  cases o with
  | none => exact p.elim
  | some res => exact ⟨res, rfl, fun F' H' v x n => p F' H' x.sF (k.ext x) v (n.rv k)⟩
theorem bind2 {a b : Option D} {g : D → D → Option RV} {r : RV} (h : (a.bind fun d1 => b.bind fun d2 => g d1 d2) = some r) : ∃ d1 d2, a = some d1 ∧ b = some d2 ∧ g d1 d2 = some r := by
  cases a with
  | none => cases h
  | some d1 =>
    cases b with
    | none => cases h
    | some d2 => exact ⟨d1, d2, rfl, rfl, h⟩
theorem rd_op2 {r : R2} {g : D → D → Option RV} (hg : OpOk G r g) {fa fb : M RV} {Q : VK} (h : rdE G xa fx W (op2 g fa fb) σ H Q) : tOp r (rdE G xa fx W fa) (rdE G xa fx W fb) σ H Q := by
  obtain ⟨B, F, e, o, p⟩ := h
  refine (p_bh o p).imp fun _ _ H1 _ _ _ q x rv => ?_
  obtain ⟨F1, e1, r1, s1, o1, h1, p1⟩ := q x rv
  refine (p_bh o1 p1).imp fun _ _ H2 _ _ _ q y rv => ?_
  obtain ⟨F2, e2, r2, s2, o2, h2, p2⟩ := q y rv
  obtain ⟨res, e3, k⟩ := p_appD o2 p2
  obtain ⟨d1, d2, k1, k2, k3⟩ := bind2 e3
  exact hg F2 H2 x y d1 d2 res Q o2.same (der_ok o2 (h1.mono s2) k1) (der_ok o2 h2 k2) k3 k
theorem rd_asB {m : M RV} {Q : Bool → Hp → Prop} (h : rdT G xa fx W (asB m) σ H Q) : rdE G xa fx W m σ H fun x H1 => ∃ k, x = .bl k ∧ Q k H1 := by
  obtain ⟨B, F, e, o, p⟩ := h
  refine (p_be o p).imp fun _ _ H1 _ _ _ q x rv => ?_
  obtain ⟨F1, e1, r, s, o1, rv1, p1⟩ := q x rv
  split at p1
  · rename_i b
    cases rv1
    exact ⟨b, rfl, p1 F1 H1 (Same.refl _) o1⟩
  · exact p1.elim

/-! ### expressions -/
def visB (sc : Scope) (x : Str) : Bool := (match sc.names.lookup x with
  | some .local => true
  | some .cell => true
  | some .free => true
  | _ => false) && (!(x == ("__debug__" : Str)) && !(x == ("__classdict__" : Str)))
theorem visB_ok {sc : Scope} {x : Str} (h : visB sc x = true) : Vis sc x ∧ (x == ("__debug__" : Str)) = false ∧ (x == ("__classdict__" : Str)) = false := by
  simp only [visB, Bool.and_eq_true, Bool.not_eq_true'] at h
  obtain ⟨h1, h2, h3⟩ := h
  refine ⟨?_, h2, h3⟩
  unfold Vis
  split at h1 <;> first | (exact .inl (by assumption)) | (exact .inr (.inl (by assumption))) | (exact .inr (.inr (by assumption))) | cases h1
def chkV (c : Cp) (i : Nat) (x : Str) : Bool := decide (c.N[i]? = some x) && visB c.sc x
theorem de_v {i : Nat} {x : Str} {pos : Pos} (h : chkV c i x = true) : DE G c (.Name x pos) (v i) := fun X xa g W tk => by
  simp only [chkV, Bool.and_eq_true, decide_eq_true_eq] at h
  obtain ⟨h1, h2, h3⟩ := visB_ok h.2
  refine PE.weak (pe_var (i := i) (by rw [g.hN]; exact h.1) (by rw [g.sc]; exact h1) h2 h3) fun σ H Q ⟨B, F, e, o, p⟩ => ?_
  unfold v at p
  have key : ∀ s, e[i]? = some s → ∃ o', σ[i]? = some o' := fun s hs => by
    have hl : i < e.length := (List.getElem?_eq_some_iff.mp hs).1
    exact ⟨_, List.getElem?_eq_getElem (by rw [o.len]; exact hl)⟩
  cases he : e[i]? with
  | none => rw [he] at p; exact p.elim
  | some s =>
    obtain ⟨o', ho⟩ := key s he
    have z := o.sl i s o' he ho
    rw [he] at p
    cases s with
    | sh d =>
      obtain ⟨v, e1, r⟩ := z
      subst e1
      exact ⟨v, ho, p F H (Same.refl _) o v r⟩
    | ow xs =>
      obtain ⟨a, vs, e1, _⟩ := z
      subst e1
      exact ⟨_, ho, p F H (Same.refl _) o _ ⟨ho, _, he, rfl⟩⟩
    | ob c fs =>
      obtain ⟨a, C, dx, vfs, e1, _⟩ := z
      subst e1
      exact ⟨_, ho, p F H (Same.refl _) o _ ⟨ho, _, he, rfl⟩⟩
    | un => exact p.elim
    | ex c fs => exact p.elim
theorem rd_kc {d : D} {vv : V} {Q : VK} (hr : ∀ F, Rp G F d vv) (h : rdE G xa fx W (kc d) σ H Q) : Q vv H := by
  obtain ⟨B, F, e, o, p⟩ := h
  exact p F H (Same.refl _) o vv (hr F)
theorem de_int {i : Int} {j : Nat} {pos : Pos} : DE G c (.Constant (.int i) j pos) (kc (.int i)) := fun X xa g W tk => PE.weak pe_int fun σ H Q h => rd_kc (fun F => .int i) h
theorem de_bl {i : Bool} {j : Nat} {pos : Pos} : DE G c (.Constant (.bool i) j pos) (kc (.bl i)) := fun X xa g W tk => PE.weak pe_bl fun σ H Q h => rd_kc (fun F => .bl i) h
theorem de_non {j : Nat} {pos : Pos} : DE G c (.Constant .none j pos) (kc .non) := fun X xa g W tk => PE.weak pe_non fun σ H Q h => rd_kc (fun F => .non) h
theorem de_str {i : Str} {j : Nat} {pos : Pos} : DE G c (.Constant (.str i) j pos) (kc (.str i)) := fun X xa g W tk => PE.weak pe_str fun σ H Q h => rd_kc (fun F => .str i) h
/-- -1 is written as a minus and a number -/
theorem de_neg {i : Int} {j : Nat} {p pos : Pos} : DE G c (.UnaryOp .USub (.Constant (.int i) j p) pos) (kc (.int (-i))) := fun X xa g W tk => PE.weak (pe_un un_neg pe_int) fun σ H Q h => ⟨i, rfl, rd_kc (fun F => .int (-i)) h⟩
def chkG (c : Cp) (x : Str) : Bool := decide (c.sc.names.lookup x = some .globalImplicit) && (!(x == ("__debug__" : Str)) && !(x == ("__name__" : Str)))
theorem chkG_ok {x : Str} (h : chkG c x = true) (g : Good G c xa X) : Gl X x ∧ (x == ("__debug__" : Str)) = false ∧ x ≠ "__name__" := by
  simp only [chkG, Bool.and_eq_true, Bool.not_eq_true', decide_eq_true_eq] at h
  obtain ⟨h1, h2, h3⟩ := h
  refine ⟨?_, h2, fun z => ?_⟩
  · show X.env.scope.names.lookup x = _
    rw [g.sc]; exact h1
  · subst z; simp at h3
theorem de_gl {x : Str} {u : Value} {vv : V} {d : D} {pos : Pos} (h : chkG c x = true) (hm : G.mg x = some u) (r : RelV vv u) (hr : ∀ F, Rp G F d vv) : DE G c (.Name x pos) (kc d) := fun X xa g W tk => by
  obtain ⟨h1, h2, h3⟩ := chkG_ok h g
  exact PE.weak (pe_glob h1 (by rw [g.mg]; exact hm) r h2) fun σ H Q h => rd_kc hr h
variable {a b : Expr} {fa fb fc : M RV} {pos : Pos}
theorem de_add (ha : DE G c a fa) (hb : DE G c b fb) : DE G c (.BinOp a .Add b pos) (op2 addD fa fb) := fun X xa g W tk =>
  PE.weak (pe_op op_addAll (ha X xa g W tk) (hb X xa g W tk)) fun σ H Q h => rd_op2 (by rw [g.K]; exact ok_add) h
theorem de_sub (ha : DE G c a fa) (hb : DE G c b fb) : DE G c (.BinOp a .Sub b pos) (op2 subD fa fb) := fun X xa g W tk =>
  PE.weak (pe_op op_sub (ha X xa g W tk) (hb X xa g W tk)) fun σ H Q h => rd_op2 ok_sub h
theorem de_mul (ha : DE G c a fa) (hb : DE G c b fb) : DE G c (.BinOp a .Mult b pos) (op2 mulD fa fb) := fun X xa g W tk =>
  PE.weak (pe_op op_mul (ha X xa g W tk) (hb X xa g W tk)) fun σ H Q h => rd_op2 ok_mul h
theorem de_div (ha : DE G c a fa) (hb : DE G c b fb) : DE G c (.BinOp a .FloorDiv b pos) (op2 divD fa fb) := fun X xa g W tk =>
  PE.weak (pe_op op_fdiv (ha X xa g W tk) (hb X xa g W tk)) fun σ H Q h => rd_op2 ok_div h
theorem de_mod (ha : DE G c a fa) (hb : DE G c b fb) : DE G c (.BinOp a .Mod b pos) (op2 modD fa fb) := fun X xa g W tk =>
  PE.weak (pe_op op_mod (ha X xa g W tk) (hb X xa g W tk)) fun σ H Q h => rd_op2 ok_mod h
theorem de_pow (ha : DE G c a fa) (hb : DE G c b fb) : DE G c (.BinOp a .Pow b pos) (op2 powD fa fb) := fun X xa g W tk =>
  PE.weak (pe_op op_pow (ha X xa g W tk) (hb X xa g W tk)) fun σ H Q h => rd_op2 ok_pow h
/-- a comparison: its operator, what it does, under which condition -/
def CmpR (G : Gb) (c : Cp) (op : CmpOp) (g : D → D → Option RV) : Prop := ∀ X xa, Good G c xa X → ∃ r, OpR X (compareOp op) r ∧ OpOk G r g
theorem cr_lt : CmpR G c .Lt ltD := fun X xa g => ⟨_, op_lt, ok_cmp _⟩
theorem cr_le : CmpR G c .LtE leD := fun X xa g => ⟨_, op_le, ok_cmp _⟩
theorem cr_gt : CmpR G c .Gt gtD := fun X xa g => ⟨_, op_gt, ok_cmp _⟩
theorem cr_ge : CmpR G c .GtE geD := fun X xa g => ⟨_, op_ge, ok_cmp _⟩
theorem Good.un (g : Good G c xa X) (h : c.cm = true) : X.A.units + 65 < cLine := by
  have := (g.room h).un
  omega
theorem cr_eq (h : c.cm = true) : CmpR G c .Eq eqD := fun X xa g => ⟨_, op_eq.or (op_eqD (by have := g.un h; omega)), by rw [g.K]; exact ok_eq⟩
theorem cr_ne (h : c.cm = true) : CmpR G c .NotEq neD := fun X xa g => ⟨_, op_ne.or (op_neD (by have := g.un h; omega)), by rw [g.K]; exact ok_ne⟩
theorem cr_in (h : c.cm = true) : CmpR G c .In inD := fun X xa g => ⟨_, op_in_seq.or (op_inD (g.un h)), by rw [g.K]; exact ok_in⟩
theorem cr_nin (h : c.cm = true) : CmpR G c .NotIn ninD := fun X xa g => ⟨_, op_notIn_seq.or (op_notInD (g.un h)), by rw [g.K]; exact ok_nin⟩
theorem cr_isN : CmpR G c .Is isND := fun X xa g => ⟨_, op_isN, ok_isN⟩
theorem cr_notN : CmpR G c .IsNot notND := fun X xa g => ⟨_, op_notN, ok_notN⟩
def noSet : Expr → Bool
  | .Set .. => false
  | _ => true
theorem noSet_ok {op : CmpOp} {b : Expr} (h : noSet b = true) : behindInMarks op b = false := by
  cases b <;> first | rfl | cases h
theorem noSet_last {op op' : CmpOp} {b d : Expr} (h : noSet d = true) : lastMarks [op, op'] [b, d] = false := by
  show behindInMarks op' d = false
  exact noSet_ok h
theorem de_cmp {op : CmpOp} {g : D → D → Option RV} (hr : CmpR G c op g) (ha : DE G c a fa) (hb : DE G c b fb) (hs : noSet b = true) : DE G c (.Compare a [op] [b] pos) (op2 g fa fb) := fun X xa gd W tk => by
  obtain ⟨r, h1, h2⟩ := hr X xa gd
  exact PE.weak (pe_cmpR h1 (ha X xa gd W tk) (hb X xa gd W tk) (noSet_ok hs)) fun σ H Q h => rd_op2 h2 h
theorem dt_cmp {op : CmpOp} {g : D → D → Option RV} (hr : CmpR G c op g) (ha : DE G c a fa) (hb : DE G c b fb) (hs : noSet b = true) : DT G c (.Compare a [op] [b] pos) (asB (op2 g fa fb)) := fun X xa gd W tk => by
  obtain ⟨r, h1, h2⟩ := hr X xa gd
  exact PT.weak (pt_cmpR h1 (ha X xa gd W tk) (hb X xa gd W tk) (noSet_ok hs)) fun σ H Q h => rd_op2 h2 (rd_asB h)
variable {d : Expr}
theorem rd_chain {r r' : R2} {g g' : D → D → Option RV} (h1 : OpOk G r g) (h2 : OpOk G r' g') {Q : VK} (h : rdE G xa fx W (chainE g g' fa fb fc) σ H Q) : tChain r r' (rdE G xa fx W fa) (rdE G xa fx W fb) (rdE G xa fx W fc) σ H Q := by
  obtain ⟨B, F, e, o, p⟩ := h
  refine (p_bh o p).imp fun _ _ H1 _ _ _ q x rv => ?_
  obtain ⟨F1, e1, r1, s1, o1, k1, p1⟩ := q x rv
  refine (p_bh o1 p1).imp fun _ _ H2 _ _ _ q y rv => ?_
  obtain ⟨F2, e2, r2, s2, o2, k2, p2⟩ := q y rv
  cases he : ((der e2 r1).bind fun d1 => (der e2 r2).bind fun d2 => g d1 d2) with
  | none => rw [he] at p2; exact p2.elim
  | some res =>
    rw [he] at p2
    obtain ⟨d1, d2, e3, e4, e5⟩ := bind2 he
    have b1 := der_ok o2 (k1.mono s2) e3
    have b2 := der_ok o2 k2 e4
    refine h1 F2 H2 x y d1 d2 res _ o2.same b1 b2 e5 fun F3 H3 z x3 n => ?_
    have o3 := o2.ext x3
    split at p2
    · rename_i e6
      cases e6
      cases n
      refine ⟨true, rfl, ?_⟩
      rw [if_pos rfl]
      refine (p_bh o3 (p2.mono x3.sF)).imp fun _ _ H4 _ _ _ q w rv => ?_
      obtain ⟨F4, e4', r3, s4, o4, k4, p4⟩ := q w rv
      obtain ⟨res', e7, kk⟩ := p_appD o4 p4
      obtain ⟨d2', d3, k5, k6, k7⟩ := bind2 e7
      exact h2 F4 H4 y w d2' d3 res' Q o4.same (der_ok o4 (k2.mono (x3.sF.trans s4)) k5) (der_ok o4 k4 k6) k7 kk
    · rename_i e6
      cases e6
      cases n
      refine ⟨false, rfl, ?_⟩
      rw [if_neg Bool.false_ne_true]
      exact p2 F3 H3 x3.sF o3 _ (.bl _)
    · exact p2.elim
theorem de_chain {op op' : CmpOp} {g g' : D → D → Option RV} (hr : CmpR G c op g) (hr' : CmpR G c op' g') (ha : DE G c a fa) (hb : DE G c b fb) (hd : DE G c d fc) (hs : noSet d = true) : DE G c (.Compare a [op, op'] [b, d] pos) (chainE g g' fa fb fc) := fun X xa gd W tk => by
  obtain ⟨r, h1, h2⟩ := hr X xa gd
  obtain ⟨r', h1', h2'⟩ := hr' X xa gd
  exact PE.weak (pe_chain h1 h1' (ha X xa gd W tk) (hb X xa gd W tk) (hd X xa gd W tk) (noSet_last hs)) fun σ H Q h => rd_chain h2 h2' h
theorem dt_chain {op op' : CmpOp} {g g' : D → D → Option RV} (hr : CmpR G c op g) (hr' : CmpR G c op' g') (ha : DE G c a fa) (hb : DE G c b fb) (hd : DE G c d fc) (hs : noSet d = true) : DT G c (.Compare a [op, op'] [b, d] pos) (asB (chainE g g' fa fb fc)) := fun X xa gd W tk => by
  obtain ⟨r, h1, h2⟩ := hr X xa gd
  obtain ⟨r', h1', h2'⟩ := hr' X xa gd
  exact PT.weak (pt_chain h1 h1' (ha X xa gd W tk) (hb X xa gd W tk) (hd X xa gd W tk) (noSet_last hs)) fun σ H Q h => rd_chain h2 h2' (rd_asB h)
/-! tests -/
def plainT : Expr → Bool
  | .UnaryOp .Not _ _ => false
  | .BoolOp .. => false
  | .IfExp .. => false
  | .Compare .. => false
  | _ => true
theorem plainT_ok {e : Expr} {env : Env} (h : plainT e = true) (whole : Sem Value) : isTrue e env whole = (do let v ← whole; standAt e.pos; holding [v] (truthy v)) := by
  cases e <;> first | rfl | (cases h; done) | skip
  rename_i op x p
  cases op <;> first | rfl | cases h
theorem dt_val (ha : DE G c a fa) (h : plainT a = true) : DT G c a (asB fa) := fun X xa gd W tk =>
  PT.weak (pt_val (ha X xa gd W tk) (plainT_ok h)) fun σ H Q h => rd_asB h
variable {ta tb : M Bool} {rest : List Expr}
theorem dt_not (ha : DT G c a ta) : DT G c (.UnaryOp .Not a pos) (notT ta) := fun X xa gd W tk => PT.weak (pt_not (ha X xa gd W tk)) fun σ H Q ⟨B, F, e, o, p⟩ => by
  refine (p_bt o p).imp fun _ _ H1 _ b _ ⟨F1, e1, s1, o1, p1⟩ => ?_
  exact p1 F1 H1 (Same.refl _) o1
theorem dw_and1 (ha : DT G c a ta) : DW G c (.BoolOp .And [a] pos) ta := fun X xa gd W tk => pw_and1 (ha X xa gd W tk)
theorem dw_or1 (ha : DT G c a ta) : DW G c (.BoolOp .Or [a] pos) ta := fun X xa gd W tk => pw_or1 (ha X xa gd W tk)
theorem dw_and (ha : DT G c a ta) (hb : DW G c (.BoolOp .And (b :: rest) pos) tb) : DW G c (.BoolOp .And (a :: b :: rest) pos) (andT ta tb) := fun X xa gd W tk => PW.weak (pw_and (ha X xa gd W tk) (hb X xa gd W tk)) fun σ H Q ⟨B, F, e, o, p⟩ => by
  refine (p_bt o p).imp fun _ _ H1 _ b _ ⟨F1, e1, s1, o1, p1⟩ => ?_
  cases b with
  | true => exact ⟨B, F1, e1, o1, p1⟩
  | false => exact p1 F1 H1 (Same.refl _) o1
theorem dw_or (ha : DT G c a ta) (hb : DW G c (.BoolOp .Or (b :: rest) pos) tb) : DW G c (.BoolOp .Or (a :: b :: rest) pos) (orT ta tb) := fun X xa gd W tk => PW.weak (pw_or (ha X xa gd W tk) (hb X xa gd W tk)) fun σ H Q ⟨B, F, e, o, p⟩ => by
  refine (p_bt o p).imp fun _ _ H1 _ b _ ⟨F1, e1, s1, o1, p1⟩ => ?_
  cases b with
  | true => exact p1 F1 H1 (Same.refl _) o1
  | false => exact ⟨B, F1, e1, o1, p1⟩
theorem dt_w (h : DW G c a ta) : DT G c a ta := fun X xa gd W tk => (h X xa gd W tk).pt
/-! and, or, not as values -/
theorem de_one {op : BoolOp} (h : DE G c a fa) : DE G c (.BoolOp op [a] pos) fa := fun X xa gd W tk => pe_one (h X xa gd W tk)
theorem rd_asB2 {m : M RV} {k : Bool → M RV} {Q : VK} {R : VK} (o : Ok G xa fx B F H σ e) (p : Post G xa fx W B F σ (fun F' H' e r => ∀ v, RvOk G B F' H' σ e v r → Q v H') (bnd (asB m) k e))
    (h : ∀ F1 H1 e1 b, Same F F1 → Ok G xa fx B F1 H1 σ e1 → Post G xa fx W B F1 σ (fun F' H' e r => ∀ v, RvOk G B F' H' σ e v r → Q v H') (k b e1) → R (.bl b) H1) : rdE G xa fx W m σ H R :=
  (rd_asB (p_bt o p)).imp fun _ _ H1 _ _ _ q x rv => by
    obtain ⟨b, eb, F1, e1, s1, o1, p1⟩ := q x rv
    subst eb
    exact h F1 H1 e1 b s1 o1 p1
theorem de_and (ha : DE G c a fa) (hb : DE G c (.BoolOp .And (b :: rest) pos) fb) : DE G c (.BoolOp .And (a :: b :: rest) pos) (andV fa fb) := fun X xa gd W tk => PE.weak (pe_and (ha X xa gd W tk) (hb X xa gd W tk)) fun σ H Q ⟨B, F, e, o, p⟩ => by
  refine rd_asB2 o p fun F1 H1 e1 b s1 o1 p1 => ⟨b, rfl, ?_⟩
  cases b with
  | true => exact ⟨B, F1, e1, o1, p1⟩
  | false => exact p1 F1 H1 (Same.refl _) o1 _ (.bl _)
theorem de_or (ha : DE G c a fa) (hb : DE G c (.BoolOp .Or (b :: rest) pos) fb) : DE G c (.BoolOp .Or (a :: b :: rest) pos) (orV fa fb) := fun X xa gd W tk => PE.weak (pe_or (ha X xa gd W tk) (hb X xa gd W tk)) fun σ H Q ⟨B, F, e, o, p⟩ => by
  refine rd_asB2 o p fun F1 H1 e1 b s1 o1 p1 => ⟨b, rfl, ?_⟩
  cases b with
  | true => exact p1 F1 H1 (Same.refl _) o1 _ (.bl _)
  | false => exact ⟨B, F1, e1, o1, p1⟩
theorem de_not (ha : DE G c a fa) : DE G c (.UnaryOp .Not a pos) (notV fa) := fun X xa gd W tk => PE.weak (pe_not (ha X xa gd W tk)) fun σ H Q ⟨B, F, e, o, p⟩ => by
  exact rd_asB2 o p fun F1 H1 e1 b s1 o1 p1 => ⟨b, rfl, p1 F1 H1 (Same.refl _) o1 _ (.bl _)⟩

/-! ### arguments, displays, subscripts, fields -/
def noStar : Expr → Bool
  | .Starred .. => false
  | _ => true
theorem noStar_ok {e : Expr} {es : List Expr} {env : Env} (h : noStar e = true) : starEach (e :: es) env = (false, eval e env) :: starEach es env := by
  cases e <;> first | rfl | cases h
theorem noStar_any {pos : Pos} {env : Env} : ∀ {es : List Expr}, es.all noStar = true → (backTo pos (starEach es env)).any (·.1) = false
  | [], _ => rfl
  | e :: es, h => by
    rw [List.all_cons, Bool.and_eq_true] at h
    rw [noStar_ok h.1]
    show (false || (backTo pos (starEach es env)).any (·.1)) = false
    rw [Bool.false_or]
    exact noStar_any h.2
variable {es : List Expr} {fs : List (M RV)}
theorem da_nil : DA G c [] [] := fun X xa gd W tk => PA.weak pa_nil fun σ H Q ⟨B, F, e, o, p⟩ => p F H (Same.refl _) o _ .nil
theorem rd_argsC {f : M RV} {Q : List V → Hp → Prop} (h : rdA G xa fx W (argsM (f :: fs)) σ H Q) : rdE G xa fx W f σ H fun x H1 => rdA G xa fx W (argsM fs) σ H1 fun xs H2 => Q (x :: xs) H2 := by
  obtain ⟨B, F, e, o, p⟩ := h
  refine (p_bh o p).imp fun _ _ H1 _ _ _ q x rv => ?_
  obtain ⟨F1, e1, r1, s1, o1, k1, p1⟩ := q x rv
  refine (p_ba o1 p1).imp fun _ _ H2 _ _ _ q xs rv => ?_
  obtain ⟨F2, e2, rs, s2, o2, k2, p2⟩ := q xs rv
  exact p2 F2 H2 (Same.refl _) o2 _ (.cons (k1.mono s2) k2)
theorem da_cons (ha : DE G c a fa) (hr : DA G c es fs) (hs : noStar a = true) : DA G c (a :: es) (fa :: fs) := fun X xa gd W tk =>
  PA.weak (pa_cons (ha X xa gd W tk) (hr X xa gd W tk) (noStar_ok hs)) fun σ H Q h => rd_argsC h
end
/-- all shared -/
def frzL : List RV → M (List D)
  | [] => fun e => .ok [] e
  | r :: rs => bnd (frzR r) fun d => bnd (frzL rs) fun ds => fun e => .ok (d :: ds) e
def tupE (fs : List (M RV)) : M RV := bnd (argsM fs) fun rs => bnd (frzL rs) fun ds => retD (.sh (.tup ds))
def lstE (fs : List (M RV)) : M RV := bnd (argsM fs) fun rs => bnd (frzL rs) fun ds => retD (.fr ds)
def slcD (lo hi : Option Int) : D → Option RV
  | .lst xs => some (.fr ((xs.drop (HT.sIx xs.length 0 lo)).take (HT.sIx xs.length xs.length hi - HT.sIx xs.length 0 lo)))
  | .tup xs => some (.sh (.tup ((xs.drop (HT.sIx xs.length 0 lo)).take (HT.sIx xs.length xs.length hi - HT.sIx xs.length 0 lo))))
  | .scr xs => some (.fr (((xs.drop (HT.sIx xs.length 0 lo)).take (HT.sIx xs.length xs.length hi - HT.sIx xs.length 0 lo)).map .int))
  | _ => none
def asI (m : M RV) : M (Option Int) := bnd m fun r => fun e => match r with
  | .sh (.int i) => .ok (some i) e
  | _ => .st
def noI : M (Option Int) := fun e => .ok none e
def slcE (f : M RV) (lo hi : M (Option Int)) : M RV := bh f fun r => bnd lo fun l => bnd hi fun h => fun e => appD ((der e r).bind (slcD l h)) e
/-- o.f of an instance of the class c -/
def fldE (c f : Str) (m : M RV) : M RV := bh m fun r => fun e => match (match r with
  | .bo i => (match e[i]? with
    | some (.ob c' fs) => some (D.ins c' fs)
    | some (.sh d) => some d
    | _ => none)
  | .sh d => some d
  | _ => none) with
  | some (.ins c' fs) => if c' = c then (match fs.lookup f with
    | some d => .ok (.sh d) e
    | none => .st) else .st
  | _ => .st
end DL
set_option Elab.async false
set_option linter.all false
set_option maxRecDepth 100000
set_option maxHeartbeats 1000000
noncomputable section
namespace DL
open PySem PySem.Spec L2
open PyProof.Rows hiding St
set_option autoImplicit false
section
variable {G : Gb} {c : Cp} {xa : XA} {fx : List Nat} {W : WX} {B : Bs} {F H F' H' F1 : Hp} {σ : St} {e : List Slot} {X : Cx} {a b d : Expr} {fa fb fc : M RV} {pos : Pos} {es : List Expr} {fs : List (M RV)}
theorem p_frz {β : Type} {r : RV} {k : D → M β} {Kx : Hp → Hp → List Slot → β → Prop} {x : V} (o : Ok G xa fx B F H σ e) (h : HeldOk G F σ x r) (p : Post G xa fx W B F σ Kx (bnd (frzR r) k e)) :
    ∃ F1 e1 d, Same F F1 ∧ Ok G xa fx B F1 H σ e1 ∧ Rp G F1 d x ∧ Post G xa fx W B F1 σ Kx (k d e1) := by
  unfold bnd at p
  cases q : frzR r e with
  | ok d e' =>
    rw [q] at p
    obtain ⟨F', s, o', rp⟩ := frz_ok o h q
    exact ⟨F', e', d, s, o', rp, p.mono s⟩
  | ex c fs e' => exact absurd q frz_ex
  | st => rw [q] at p; exact p.elim
theorem bnd_bnd {α β γ : Type} (m : M α) (k : α → M β) (l : β → M γ) : bnd (bnd m k) l = bnd m fun a => bnd (k a) l := by
  funext e
  unfold bnd
  cases m e <;> rfl
theorem p_frzL {β : Type} {Kx : Hp → Hp → List Slot → β → Prop} : ∀ {rs : List RV} {k : List D → M β} {xs : List V} {F : Hp} {e : List Slot}, Ok G xa fx B F H σ e → HeldL G F σ xs rs → Post G xa fx W B F σ Kx (bnd (frzL rs) k e) →
    ∃ F1 e1 ds, Same F F1 ∧ Ok G xa fx B F1 H σ e1 ∧ RpL G F1 ds xs ∧ Post G xa fx W B F1 σ Kx (k ds e1)
  | _, k, _, F, e, o, .nil, p => ⟨F, e, [], Same.refl _, o, .nil, p⟩
  | r :: rs, k, x :: xs, F, e, o, .cons h t, p => by
    rw [show frzL (r :: rs) = bnd (frzR r) fun d => bnd (frzL rs) fun ds => fun e => .ok (d :: ds) e from rfl, bnd_bnd] at p
    obtain ⟨F1, e1, d, s1, o1, r1, p1⟩ := p_frz o h p
    rw [bnd_bnd] at p1
    obtain ⟨F2, e2, ds, s2, o2, r2, p2⟩ := p_frzL o1 (t.mono s1) p1
    exact ⟨F2, e2, d :: ds, s1.trans s2, o2, .cons (r1.mono s2) r2, p2⟩
theorem argsM_len : ∀ {fs : List (M RV)} {e e' : List Slot} {rs : List RV}, argsM fs e = .ok rs e' → rs.length = fs.length
  | [], _, _, _, h => by cases h; rfl
  | f :: fs, e, e', rs, h => by
    simp only [argsM, bh, bnd] at h
    split at h
    · rename_i r e1 _
      cases q : argsM fs e1 with
      | ok rs' e2 =>
        rw [q] at h
        cases h
        rw [List.length_cons, List.length_cons, argsM_len q]
      | ex c fs e2 => rw [q] at h; cases h
      | st => rw [q] at h; cases h
    · cases h
    · cases h
theorem p_bal {β : Type} {k : List RV → M β} {Kx : Hp → Hp → List Slot → β → Prop} (o : Ok G xa fx B F H σ e) (p : Post G xa fx W B F σ Kx (bnd (argsM fs) k e)) :
    rdA G xa fx W (argsM fs) σ H fun vs H1 => ∃ F1 e1 rs, Same F F1 ∧ Ok G xa fx B F1 H1 σ e1 ∧ HeldL G F1 σ vs rs ∧ rs.length = fs.length ∧ Post G xa fx W B F1 σ Kx (k rs e1) := by
  refine ⟨B, F, e, o, ?_⟩
  unfold bnd at p
  cases q : argsM fs e with
  | ok a e' =>
    rw [q] at p
    exact fun F' H' s k xs rv => ⟨F', e', a, s, k, rv, argsM_len q, p.mono s⟩
  | ex c fs e' => rw [q] at p; exact p
  | st => rw [q] at p; exact p
theorem HeldL.length : ∀ {vs : List V} {rs : List RV}, HeldL G F σ vs rs → vs.length = rs.length
  | _, _, .nil => rfl
  | _, _, .cons h r => by rw [List.length_cons, List.length_cons, HeldL.length r]
theorem small_k {n : Nat} (h : n ≤ 1000) : n ≤ sizeLine := Nat.le_trans h (by decide)
theorem de_tup {x1 : Nat} (h : DA G c es fs) (hl : fs.length ≤ 1000) : DE G c (.Tuple es x1 pos) (tupE fs) := fun X xa g W tk => PE.weak (pe_tup (h X xa g W tk)) fun σ H Q ⟨B, F, e, o, p⟩ => by
  refine (p_bal o p).imp fun _ _ H1 _ _ _ q xs rv => ?_
  obtain ⟨F1, e1, rs, s1, o1, k1, l1, p1⟩ := q xs rv
  obtain ⟨F2, e2, ds, s2, o2, k2, p2⟩ := p_frzL o1 k1 p1
  refine ⟨small_k (by rw [k1.length, l1]; exact hl), nw_tup o2.same k2 fun F' H' v x n => ?_⟩
  exact p2 F' H' x.sF (o2.ext x) v (n.rv o2)
theorem de_lst (h : DA G c es fs) (hl : fs.length ≤ 1000) : DE G c (.List es pos) (lstE fs) := fun X xa g W tk => PE.weak (pe_lst (h X xa g W tk)) fun σ H Q ⟨B, F, e, o, p⟩ => by
  refine (p_bal o p).imp fun _ _ H1 _ _ _ q xs rv => ?_
  obtain ⟨F1, e1, rs, s1, o1, k1, l1, p1⟩ := q xs rv
  obtain ⟨F2, e2, ds, s2, o2, k2, p2⟩ := p_frzL o1 k1 p1
  refine ⟨small_k (by rw [k1.length, l1]; exact hl), nw_fr o2.same k2 fun F' H' v x n => ?_⟩
  exact p2 F' H' x.sF (o2.ext x) v (n.rv o2)
def plainI : Expr → Bool
  | .Slice .. => false
  | _ => true
theorem plainI_ok {b : Expr} (h : plainI b = true) : PlainIx b := fun o i => by
  cases b <;> first | rfl | cases h
theorem de_ix (ha : DE G c a fa) (hb : DE G c b fb) (hs : plainI b = true) : DE G c (.Subscript a b pos) (op2 idxD fa fb) := fun X xa g W tk =>
  PE.weak (pe_ix ix_seq (ha X xa g W tk) (hb X xa g W tk) (plainI_ok hs)) fun σ H Q h => rd_op2 (by rw [g.K]; exact ok_idx) h
/-! slices -/
def rdO (G : Gb) (xa : XA) (fx : List Nat) (W : WX) (f : M (Option Int)) : TO := fun σ H Q => rd G xa fx W f σ H fun _ _ H' _ b => Q b H'
def DO (G : Gb) (c : Cp) (e : Option Expr) (f : M (Option Int)) : Prop := ∀ X xa, Good G c xa X → ∀ W, Takes X W → PO X e (rdO G xa c.fx W f)
theorem PO.weak {X : Cx} {e : Option Expr} {t t' : TO} (h : PO X e t) (k : ∀ σ H Q, t' σ H Q → t σ H Q) : PO X e t' := by
  obtain ⟨r⟩ := h
  exact ⟨fun pins s σ H Q I q => r pins s σ H Q I (k σ H Q q)⟩
theorem do_none : DO G c none noI := fun X xa g W tk => PO.weak po_none fun σ H Q ⟨B, F, e, o, p⟩ => p F H (Same.refl _) o
theorem do_some (ha : DE G c a fa) : DO G c (some a) (asI fa) := fun X xa g W tk => PO.weak (po_some (ha X xa g W tk)) fun σ H Q ⟨B, F, e, o, p⟩ => by
  refine (p_be o p).imp fun _ _ H1 _ _ _ q x rv => ?_
  obtain ⟨F1, e1, r, s, o1, rv1, p1⟩ := q x rv
  split at p1
  · rename_i i
    cases rv1
    exact ⟨i, rfl, p1 F1 H1 (Same.refl _) o1⟩
  · exact p1.elim
theorem p_bo {β : Type} {m : M (Option Int)} {k : Option Int → M β} {Kx : Hp → Hp → List Slot → β → Prop} (o : Ok G xa fx B F H σ e) (p : Post G xa fx W B F σ Kx (bnd m k e)) :
    rdO G xa fx W m σ H fun b H1 => ∃ F1 e1, Same F F1 ∧ Ok G xa fx B F1 H1 σ e1 ∧ Post G xa fx W B F1 σ Kx (k b e1) :=
  (p_bnd o p).imp fun B' F1 H1 e1 a _ ⟨eb, s, o, p⟩ => ⟨F1, e1, s, o, p⟩
abbrev rSlAll (K : PySem.W.Frag) : V → Option Int → Option Int → Hp → VK → Prop := fun x lo hi H Q => rSlL K x lo hi H Q ∨ rSlA K x lo hi H Q
theorem RpL.cut {ds : List D} {vs : List V} (r : RpL G F ds vs) (lo hi : Option Int) : RpL G F ((ds.drop (HT.sIx ds.length 0 lo)).take (HT.sIx ds.length ds.length hi - HT.sIx ds.length 0 lo)) (cutV vs lo hi) := by
  unfold cutV
  rw [r.length]
  exact (r.drop _).take _
theorem ok_slc {lo hi : Option Int} {x : V} {d1 : D} {res : RV} {Q : VK} (s : Same F H) (b1 : Bp G F H d1 x) (h : slcD lo hi d1 = some res)
    (q : ∀ F' H' v, Ext F H F' H' → NewOk G H F' H' v res → Q v H') : rSlAll G.K x lo hi H Q := by
  unfold slcD at h
  split at h
  · cases h
    obtain ⟨a, vs, e1, hl, r⟩ := b1.lst s
    exact .inl ⟨a, vs, e1, SqL.of hl, nw_fr s (r.cut lo hi) q⟩
  · cases h
    obtain ⟨a, vs, e1, hl, r⟩ := b1.tup s
    refine .inr ⟨a, vs, e1, hl, fun z => ?_, fun _ => nw_tup s (r.cut lo hi) q⟩
    rcases b1 with b1 | ⟨_, _, _, _, z, _⟩
    · rw [← e1]
      refine nw_sc s b1 fun F' H' v x n => q F' H' v x ?_
      rw [← r.length] at z
      rw [z.1, z.2, List.drop_zero, Nat.sub_zero, List.take_length]
      exact n
    · cases z
  · rename_i ns
    cases h
    obtain ⟨a, e1, hl⟩ := b1.scr s
    have ec : cutV (ns.map V.int) lo hi = ((ns.drop (HT.sIx ns.length 0 lo)).take (HT.sIx ns.length ns.length hi - HT.sIx ns.length 0 lo)).map V.int := by
      unfold cutV
      rw [List.length_map, ← List.map_drop, ← List.map_take]
    exact .inl ⟨a, _, e1, hl, by rw [ec]; exact nw_fr s (RpL.ints _) q⟩
  · cases h
theorem de_slc {lo hi : Option Expr} {fl fh : M (Option Int)} {p2 : Pos} (ha : DE G c a fa) (hl : DO G c lo fl) (hh : DO G c hi fh) : DE G c (.Subscript a (.Slice lo hi none p2) pos) (slcE fa fl fh) := fun X xa g W tk =>
  PE.weak (pe_slice (sl_list.or sl_tupA) (ha X xa g W tk) (hl X xa g W tk) (hh X xa g W tk)) fun σ H Q ⟨B, F, e, o, p⟩ => by
  refine (p_bh o p).imp fun _ _ H1 _ _ _ q x rv => ?_
  obtain ⟨F1, e1, r1, s1, o1, h1, p1⟩ := q x rv
  refine (p_bo o1 p1).imp fun _ _ H2 _ l _ ⟨F2, e2, s2, o2, p2⟩ => ?_
  refine (p_bo o2 p2).imp fun _ _ H3 _ h _ ⟨F3, e3, s3, o3, p3⟩ => ?_
  obtain ⟨res, e4, k⟩ := p_appD o3 p3
  cases e5 : der e3 r1 with
  | none => rw [e5] at e4; cases e4
  | some d1 =>
    rw [e5] at e4
    have z := ok_slc o3.same (der_ok o3 (h1.mono (s2.trans s3)) e5) e4 k
    rw [← g.K] at z
    exact z
/-! fields -/
def noSup : Expr → Bool
  | .Call .. => false
  | _ => true
theorem noSup_ok {e : Expr} {f : Str} {env : Env} (h : noSup e = true) : attributeBase e f env (eval e env) = eval e env := by
  cases e <;> first | rfl | cases h
theorem fld_at {r : RV} {x : V} {cl f : Str} {d : D} {vs : List (Str × V)} {fs : Fds} (rp : RpF G F fs vs) (h : fs.lookup f = some d) : ∃ v, vs.lookup f = some v ∧ Rp G F d v := rp.lookup h
/-- what a class that may be read must have -/
structure ClsOk (G : Gb) (cl : Str) (fs : List Str) : Prop where
  cls : ∀ C, G.mg cl = some (.ref C) → Cls G.K C
  no : ∀ C, G.mg cl = some (.ref C) → ∀ f ∈ fs, NoAttr G.K C f
theorem de_fld {cl f : Str} {fl : List Str} (T : ClsOk G cl fl) (hf : f ∈ fl) (ha : DE G c a fa) (hs : noSup a = true) : DE G c (.Attribute a f pos) (fldE cl f fa) := fun X xa g W tk => PE.weak (pe_fld (ha X xa g W tk) (noSup_ok hs)) fun σ H Q ⟨B, F, e, o, p⟩ => by
  refine (p_bh o p).imp fun _ _ H1 _ _ _ q x rv => ?_
  obtain ⟨F1, e1, r1, s1, o1, h1, p1⟩ := q x rv
  have fin : ∀ {c' : Str} {fs : Fds} {a C dx : Addr} {vfs : List (Str × V)}, x = .ref a → G.mg c' = some (.ref C) → H1 a = some (.ins C dx vfs) → RpF G F1 fs vfs →
      Post G xa c.fx W B F1 σ (fun F' H' e r => ∀ v, RvOk G B F' H' σ e v r → Q v H') (if c' = cl then (match fs.lookup f with
        | some d => .ok (.sh d) e1
        | none => .st) else .st) → ∃ a C dx fs v, x = .ref a ∧ H1 a = some (.ins C dx fs) ∧ Cls X.K C ∧ NoAttr X.K C f ∧ fs.lookup f = some v ∧ Q v H1 := by
    intro c' fs a C dx vfs ex hm hH rp pp
    by_cases ec : c' = cl
    · rw [if_pos ec] at pp
      cases hd : fs.lookup f with
      | none => rw [hd] at pp; exact pp.elim
      | some d =>
        rw [hd] at pp
        obtain ⟨v, hv, rv⟩ := rp.lookup hd
        rw [g.K]
        rw [ec] at hm
        exact ⟨a, C, dx, vfs, v, ex, hH, T.cls C hm, T.no C hm f hf, hv, pp F1 H1 (Same.refl _) o1 v rv⟩
    · rw [if_neg ec] at pp
      exact pp.elim
  have shr : ∀ {d : D}, Rp G F1 d x → Post G xa c.fx W B F1 σ (fun F' H' e r => ∀ v, RvOk G B F' H' σ e v r → Q v H') (match some d with
      | some (.ins c' fs) => if c' = cl then (match fs.lookup f with
        | some d => .ok (.sh d) e1
        | none => .st) else .st
      | _ => .st) → ∃ a C dx fs v, x = .ref a ∧ H1 a = some (.ins C dx fs) ∧ Cls X.K C ∧ NoAttr X.K C f ∧ fs.lookup f = some v ∧ Q v H1 := by
    intro d rp p
    cases rp with
    | ins m h r => exact fin rfl m (o1.same _ _ h) r p
    | _ => exact p.elim
  cases r1 with
  | sh d => exact shr h1 p1
  | fr xs => exact h1.elim
  | bo i =>
    have hi : σ[i]? = some (some x) := h1
    cases he : e1[i]? with
    | none => simp only [he] at p1; exact p1.elim
    | some s =>
      simp only [he] at p1
      have z := o1.sl i s _ he hi
      cases s with
      | ob c' fs =>
        obtain ⟨a, C, dx, vfs, ex, f0, hh, m, r, _⟩ := z
        cases ex
        exact fin rfl m hh r p1
      | sh d =>
        obtain ⟨v, ev, rp⟩ := z
        cases ev
        exact shr rp p1
      | un => exact p1.elim
      | ow xs => exact p1.elim
      | ex c fs => exact p1.elim
end
end DL
set_option Elab.async false
set_option linter.all false
set_option maxRecDepth 100000
set_option maxHeartbeats 1000000
noncomputable section
namespace DL
open PySem PySem.Spec L2
open PyProof.Rows hiding St
set_option autoImplicit false

/-! ### built-in functions -/
def derL (e : List Slot) : List RV → Option (List D)
  | [] => some []
  | r :: rs => (der e r).bind fun d => (derL e rs).bind fun ds => some (d :: ds)
def callB (g : List D → Option RV) (fs : List (M RV)) : M RV := bnd (argsM fs) fun rs => fun e => appD ((derL e rs).bind g) e
inductive BpL (G : Gb) (F H : Hp) : List D → List V → Prop
  | nil : BpL G F H [] []
  | cons {d : D} {v : V} {ds : List D} {vs : List V} : Bp G F H d v → BpL G F H ds vs → BpL G F H (d :: ds) (v :: vs)
def COk (G : Gb) (r : List V → Hp → VK → Prop) (g : List D → Option RV) : Prop := ∀ F H xs ds res Q, Same F H → BpL G F H ds xs → g ds = some res →
  (∀ F' H' v, Ext F H F' H' → NewOk G H F' H' v res → Q v H') → r xs H Q
def lenD : List D → Option RV
  | [.lst xs] => some (.sh (.int xs.length))
  | [.tup xs] => some (.sh (.int xs.length))
  | [.scr xs] => some (.sh (.int xs.length))
  | [.str s] => if s.length ≤ 100000 then some (.sh (.int s.length)) else none
  | _ => none
def listD : List D → Option RV
  | [.lst xs] => some (.fr xs)
  | [.tup xs] => some (.fr xs)
  | _ => none
def tupleD : List D → Option RV
  | [.lst xs] => some (.sh (.tup xs))
  | [.tup xs] => some (.sh (.tup xs))
  | _ => none
def allInts : List D → Option (List Int)
  | [] => some []
  | .int i :: r => (allInts r).map (i :: ·)
  | _ => none
/-- sorted, ints -/
def putZ (x : Int) : List Int → List Int
  | [] => [x]
  | y :: r => if x ≤ y then x :: y :: r else y :: putZ x r
def srtZ : List Int → List Int
  | [] => []
  | x :: r => putZ x (srtZ r)
theorem putZ_perm (x : Int) : ∀ l, (putZ x l).Perm (x :: l)
  | [] => List.Perm.refl _
  | y :: r => by
    unfold putZ
    split
    · exact List.Perm.refl _
    · exact ((putZ_perm x r).cons y).trans (List.Perm.swap x y r)
theorem srtZ_perm : ∀ l, (srtZ l).Perm l
  | [] => List.Perm.refl _
  | x :: r => (putZ_perm x _).trans ((srtZ_perm r).cons x)
theorem putZ_srt (x : Int) : ∀ l, l.Pairwise (· ≤ ·) → (putZ x l).Pairwise (· ≤ ·)
  | [], _ => by simp [putZ]
  | y :: r, h => by
    unfold putZ
    rw [List.pairwise_cons] at h
    split
    · rename_i hx
      rw [List.pairwise_cons]
      refine ⟨fun z hz => ?_, List.pairwise_cons.mpr h⟩
      rcases List.mem_cons.mp hz with e | hz
      · rw [e]; exact hx
      · exact Int.le_trans hx (h.1 z hz)
    · rename_i hx
      rw [List.pairwise_cons]
      refine ⟨fun z hz => ?_, putZ_srt x r h.2⟩
      rcases List.mem_cons.mp ((putZ_perm x r).mem_iff.mp hz) with e | hz
      · rw [e]; omega
      · exact h.1 z hz
theorem srtZ_srt : ∀ l, (srtZ l).Pairwise (· ≤ ·)
  | [] => List.Pairwise.nil
  | x :: r => putZ_srt x _ (srtZ_srt r)
theorem srt_uniq : ∀ {l m : List Int}, l.Perm m → l.Pairwise (· ≤ ·) → m.Pairwise (· ≤ ·) → l = m
  | [], m, p, _, _ => (List.Perm.nil_eq p)
  | x :: r, [], p, _, _ => by have := p.length_eq; simp at this
  | x :: r, y :: s, p, h1, h2 => by
    have hx : x ∈ y :: s := p.mem_iff.mp (List.mem_cons_self)
    have hy : y ∈ x :: r := p.mem_iff.mpr (List.mem_cons_self)
    have g1 := List.pairwise_cons.mp h1
    have g2 := List.pairwise_cons.mp h2
    have e : x = y := by
      rcases List.mem_cons.mp hx with e | hx
      · exact e
      · rcases List.mem_cons.mp hy with e | hy
        · exact e.symm
        · have := g1.1 y hy
          have := g2.1 x hx
          omega
    subst e
    rw [srt_uniq (List.Perm.cons_inv p) g1.2 g2.2]
def sortedD : List D → Option RV
  | [.lst xs] => (allInts xs).map fun ns => .fr ((srtZ ns).map .int)
  | _ => none
def intD : List D → Option RV
  | [.int i] => some (.sh (.int i))
  | [.bl b] => some (.sh (.int (if b then 1 else 0)))
  | _ => none
def int2D : List D → Option RV
  | [.str s] => if s.length ≤ 640 then (PySem.intText? s).map fun n => .sh (.int n) else none
  | _ => none
def strD : List D → Option RV
  | [.int i] => if i.natAbs.log2 < 1920 then some (.sh (.str (Str.ofString (toString i)))) else none
  | _ => none
section
variable {G : Gb} {c : Cp} {xa : XA} {fx : List Nat} {W : WX} {B : Bs} {F H F' H' F1 : Hp} {σ : St} {e : List Slot} {X : Cx} {a b d : Expr} {fa fb fc : M RV} {pos : Pos} {es : List Expr} {fs : List (M RV)}
theorem derL_ok (o : Ok G xa fx B F H σ e) : ∀ {xs : List V} {rs : List RV} {ds : List D}, HeldL G F σ xs rs → derL e rs = some ds → BpL G F H ds xs
  | _, _, _, .nil, h => by cases h; exact .nil
  | _, _, _, .cons (r := r) (rs := rs) k t, h => by
    simp only [derL] at h
    cases e1 : der e r with
    | none => rw [e1] at h; cases h
    | some d =>
      rw [e1] at h
      cases e2 : derL e rs with
      | none => rw [e2] at h; cases h
      | some ds' =>
        rw [e2] at h
        cases h
        exact .cons (der_ok o k e1) (derL_ok o t e2)
theorem rd_callB {r : List V → Hp → VK → Prop} {g : List D → Option RV} (hg : COk G r g) {Q : VK} (h : rdE G xa fx W (callB g fs) σ H Q) : tCB r (rdA G xa fx W (argsM fs)) σ H Q := by
  obtain ⟨B, F, e, o, p⟩ := h
  refine (p_ba o p).imp fun _ _ H1 _ _ _ q xs rv => ?_
  obtain ⟨F1, e1, rs, s1, o1, k1, p1⟩ := q xs rv
  obtain ⟨res, e2, k⟩ := p_appD o1 p1
  cases e3 : derL e1 rs with
  | none => rw [e3] at e2; cases e2
  | some ds => rw [e3] at e2; exact hg F1 H1 xs ds res Q o1.same (derL_ok o1 k1 e3) e2 k
theorem BpL.one {d1 : D} {xs : List V} (h : BpL G F H [d1] xs) : ∃ x, xs = [x] ∧ Bp G F H d1 x := by
  cases h with
  | cons k t => cases t; exact ⟨_, rfl, k⟩
/-- a built-in function, a built-in type, called -/
theorem de_cb {x : Str} {id : String} {r : List V → Hp → VK → Prop} {g : List D → Option RV} {p : Pos} (hc : ∀ X xa, Good G c xa X → CallR X (.builtin id) r) (hg : COk G r g) (h : chkG c x = true) (hm : G.mg x = none) (hv : bootBuiltins x = some (.builtin id))
    (ha : DA G c (a :: es) fs) (hs : (a :: es).all noStar = true) : DE G c (.Call (.Name x p) (a :: es) [] pos) (callB g fs) := fun X xa gd W tk => by
  obtain ⟨h1, h2, h3⟩ := chkG_ok h gd
  rw [List.all_cons, Bool.and_eq_true] at hs
  exact PE.weak (pe_callB (hc X xa gd) h1 (by rw [gd.mg]; exact hm) hv (ha X xa gd W tk) h3 h2 (noStar_ok hs.1) (noStar_any hs.2)) fun σ H Q h => rd_callB hg h
theorem de_ct {x : Str} {T : String} {r : List V → Hp → VK → Prop} {g : List D → Option RV} {p : Pos} (hc : ∀ X xa, Good G c xa X → CallR X (.type T) r) (hg : COk G r g) (h : chkG c x = true) (hm : G.mg x = none) (hv : bootBuiltins x = some (.type T))
    (ha : DA G c (a :: es) fs) (hs : (a :: es).all noStar = true) : DE G c (.Call (.Name x p) (a :: es) [] pos) (callB g fs) := fun X xa gd W tk => by
  obtain ⟨h1, h2, h3⟩ := chkG_ok h gd
  rw [List.all_cons, Bool.and_eq_true] at hs
  exact PE.weak (pe_callTy (hc X xa gd) h1 (by rw [gd.mg]; exact hm) hv (ha X xa gd W tk) h3 h2 (noStar_ok hs.1) (noStar_any hs.2)) fun σ H Q h => rd_callB hg h
abbrev rLen (K : PySem.W.Frag) : List V → Hp → VK → Prop := fun xs H Q => (∃ p ys, xs = [V.ref p] ∧ (SqL K H p ys ∨ SqT K H p ys) ∧ Q (.int ys.length) H) ∨ ∃ z, xs = [V.str z] ∧ z.length ≤ sizeLine ∧ Q (.int z.length) H
theorem ok_len : COk G (rLen G.K) lenD := by
  intro F H xs ds res Q s b h q
  unfold lenD at h
  split at h
  · cases h
    obtain ⟨x, ex, b1⟩ := b.one
    subst ex
    obtain ⟨a, vs, rfl, hl, r⟩ := b1.lst s
    exact .inl ⟨a, vs, rfl, .inl (SqL.of hl), by rw [← r.length]; exact nw_sc s (.int _) q⟩
  · cases h
    obtain ⟨x, ex, b1⟩ := b.one
    subst ex
    obtain ⟨a, vs, rfl, hl, r⟩ := b1.tup s
    exact .inl ⟨a, vs, rfl, .inr hl, by rw [← r.length]; exact nw_sc s (.int _) q⟩
  · cases h
    obtain ⟨x, ex, b1⟩ := b.one
    subst ex
    obtain ⟨a, rfl, hl⟩ := b1.scr s
    exact .inl ⟨a, _, rfl, .inl hl, by rw [List.length_map]; exact nw_sc s (.int _) q⟩
  · split at h
    · rename_i hz
      cases h
      obtain ⟨x, ex, b1⟩ := b.one
      subst ex
      cases b1.str
      exact .inr ⟨_, rfl, size_le hz, nw_sc s (.int _) q⟩
    · cases h
  · cases h
theorem de_len {p : Pos} (h : chkG c "len" = true) (hm : G.mg "len" = none) (ha : DE G c a fa) (hs : noStar a = true) : DE G c (.Call (.Name "len" p) [a] [] pos) (callB lenD [fa]) :=
  de_cb (r := rLen G.K) (fun X xa g => by rw [← g.K]; exact call_len_seq.or call_len_str) ok_len h hm boot_len (da_cons ha da_nil hs) (by simp [hs])
abbrev rList (K : PySem.W.Frag) : List V → Hp → VK → Prop := fun xs H Q => ∃ p ys, xs = [V.ref p] ∧ (SqL K H p ys ∨ SqT K H p ys) ∧ ∀ l, H l = none → Q (.ref l) (upd H l (.lst ys))
theorem ok_list : COk G (rList G.K) listD := by
  intro F H xs ds res Q s b h q
  unfold listD at h
  split at h
  · cases h
    obtain ⟨x, ex, b1⟩ := b.one
    subst ex
    obtain ⟨a, vs, rfl, hl, r⟩ := b1.lst s
    exact ⟨a, vs, rfl, .inl (SqL.of hl), nw_fr s r q⟩
  · cases h
    obtain ⟨x, ex, b1⟩ := b.one
    subst ex
    obtain ⟨a, vs, rfl, hl, r⟩ := b1.tup s
    exact ⟨a, vs, rfl, .inr hl, nw_fr s r q⟩
  · cases h
theorem de_list {p : Pos} (h : chkG c "list" = true) (hm : G.mg "list" = none) (ha : DE G c a fa) (hs : noStar a = true) : DE G c (.Call (.Name "list" p) [a] [] pos) (callB listD [fa]) :=
  de_ct (r := rList G.K) (fun X xa g => by rw [← g.K]; exact call_list_of) ok_list h hm PyProof.Rows.boot_list (da_cons ha da_nil hs) (by simp [hs])
abbrev rTuple (K : PySem.W.Frag) : List V → Hp → VK → Prop := fun xs H Q => ∃ p ys, xs = [V.ref p] ∧ ((SqL K H p ys ∧ ∀ l, H l = none → Q (.ref l) (upd H l (.tup ys))) ∨ (SqT K H p ys ∧ Q (.ref p) H))
theorem ok_tuple : COk G (rTuple G.K) tupleD := by
  intro F H xs ds res Q s b h q
  unfold tupleD at h
  split at h
  · cases h
    obtain ⟨x, ex, b1⟩ := b.one
    subst ex
    obtain ⟨a, vs, rfl, hl, r⟩ := b1.lst s
    exact ⟨a, vs, rfl, .inl ⟨SqL.of hl, nw_tup s r q⟩⟩
  · cases h
    obtain ⟨x, ex, b1⟩ := b.one
    subst ex
    rcases id b1 with b2 | ⟨_, _, _, _, z, _⟩
    · obtain ⟨a, vs, rfl, hl, r⟩ := b1.tup s
      exact ⟨a, vs, rfl, .inr ⟨hl, nw_sc s b2 q⟩⟩
    · cases z
  · cases h
theorem de_tuple {p : Pos} (h : chkG c "tuple" = true) (hm : G.mg "tuple" = none) (ha : DE G c a fa) (hs : noStar a = true) : DE G c (.Call (.Name "tuple" p) [a] [] pos) (callB tupleD [fa]) :=
  de_ct (r := rTuple G.K) (fun X xa g => by rw [← g.K]; exact call_tuple_of) ok_tuple h hm PyProof.Rows.boot_tuple (da_cons ha da_nil hs) (by simp [hs])
theorem allInts_eq : ∀ {xs : List D} {ns : List Int}, allInts xs = some ns → xs = ns.map .int
  | [], _, h => by cases h; rfl
  | .int i :: r, ns, h => by
    simp only [allInts] at h
    cases e : allInts r with
    | none => rw [e] at h; cases h
    | some ms =>
      rw [e] at h; cases h
      rw [List.map_cons, allInts_eq e]
  | .non :: _, _, h => by cases h
  | .bl _ :: _, _, h => by cases h
  | .str _ :: _, _, h => by cases h
  | .lst _ :: _, _, h => by cases h
  | .tup _ :: _, _, h => by cases h
  | .ins _ _ :: _, _, h => by cases h
  | .scr _ :: _, _, h => by cases h
theorem allInts_map : ∀ ns : List Int, allInts (ns.map .int) = some ns
  | [] => rfl
  | n :: ns => by simp only [List.map_cons, allInts, allInts_map ns] <;> rfl
theorem ok_sorted : COk G (rSortedI G.K) sortedD := by
  intro F H xs ds res Q s b h q
  unfold sortedD at h
  split at h
  · rename_i ys
    cases e : allInts ys with
    | none => rw [e] at h; cases h
    | some ns =>
      rw [e] at h; cases h
      have ey := allInts_eq e
      subst ey
      obtain ⟨x, ex, b1⟩ := b.one
      subst ex
      obtain ⟨a, vs, rfl, hl, r⟩ := b1.lst s
      have ev := r.ints_inv
      subst ev
      refine ⟨a, ns, rfl, SqL.of hl, fun ns' p pe so hp => ?_⟩
      have en : ns' = srtZ ns := srt_uniq (pe.trans (srtZ_perm ns).symm) so (srtZ_srt ns)
      subst en
      exact nw_fr s (RpL.ints _) q p hp
  · cases h
theorem de_sorted {p : Pos} (h : chkG c "sorted" = true) (hm : G.mg "sorted" = none) (ha : DE G c a fa) (hs : noStar a = true) : DE G c (.Call (.Name "sorted" p) [a] [] pos) (callB sortedD [fa]) :=
  de_cb (r := rSortedI G.K) (fun X xa g => by rw [← g.K]; exact cr_sortedI) ok_sorted h hm (by decide +kernel) (da_cons ha da_nil hs) (by simp [hs])
abbrev rInt1 : List V → Hp → VK → Prop := fun xs H Q => (∃ i, xs = [V.int i] ∧ Q (.int i) H) ∨ ∃ k, xs = [V.bl k] ∧ Q (.int (if k then 1 else 0)) H
theorem ok_int : COk G rInt1 intD := by
  intro F H xs ds res Q s b h q
  unfold intD at h
  split at h
  · cases h
    obtain ⟨x, ex, b1⟩ := b.one
    subst ex
    cases b1.int
    exact .inl ⟨_, rfl, nw_sc s (.int _) q⟩
  · cases h
    obtain ⟨x, ex, b1⟩ := b.one
    subst ex
    cases b1.bl
    exact .inr ⟨_, rfl, nw_sc s (.int _) q⟩
  · cases h
theorem de_int1 {p : Pos} (h : chkG c "int" = true) (hm : G.mg "int" = none) (ha : DE G c a fa) (hs : noStar a = true) : DE G c (.Call (.Name "int" p) [a] [] pos) (callB intD [fa]) :=
  de_ct (r := rInt1) (fun X xa g => call_int1) ok_int h hm PyProof.Rows.boot_int (da_cons ha da_nil hs) (by simp [hs])
theorem ok_int2 : COk G (fun xs H Q => ∃ a n, xs = [V.str a] ∧ PySem.intText? a = some n ∧ a.length ≤ 640 ∧ Q (.int n) H) int2D := by
  intro F H xs ds res Q s b h q
  unfold int2D at h
  split at h
  · rename_i z
    split at h
    · rename_i hz
      cases e : PySem.intText? z with
      | none => rw [e] at h; cases h
      | some n =>
        rw [e] at h; cases h
        obtain ⟨x, ex, b1⟩ := b.one
        subst ex
        cases b1.str
        exact ⟨_, _, rfl, e, hz, nw_sc s (.int _) q⟩
    · cases h
  · cases h
theorem de_int2 {p : Pos} (h : chkG c "int" = true) (hm : G.mg "int" = none) (ha : DE G c a fa) (hs : noStar a = true) : DE G c (.Call (.Name "int" p) [a] [] pos) (callB int2D [fa]) :=
  de_ct (fun X xa g => call_int_str) ok_int2 h hm PyProof.Rows.boot_int (da_cons ha da_nil hs) (by simp [hs])
theorem ok_str1 : COk G (fun xs H Q => ∃ i, xs = [V.int i] ∧ i.natAbs.log2 < 1920 ∧ Q (.str (Str.ofString (toString i))) H) strD := by
  intro F H xs ds res Q s b h q
  unfold strD at h
  split at h
  · split at h
    · rename_i hz
      cases h
      obtain ⟨x, ex, b1⟩ := b.one
      subst ex
      cases b1.int
      exact ⟨_, rfl, hz, nw_sc s (.str _) q⟩
    · cases h
  · cases h
theorem de_str1 {p : Pos} (h : chkG c "str" = true) (hm : G.mg "str" = none) (ha : DE G c a fa) (hs : noStar a = true) : DE G c (.Call (.Name "str" p) [a] [] pos) (callB strD [fa]) :=
  de_ct (fun X xa g => call_str_int) ok_str1 h hm PyProof.Rows.boot_str (da_cons ha da_nil hs) (by simp [hs])
end

/-! ### isinstance -/
def tyN : D → Option String
  | .non => some "NoneType"
  | .bl _ => some "bool"
  | .int _ => some "int"
  | .str _ => some "str"
  | .lst _ => some "list"
  | .scr _ => some "list"
  | .tup _ => some "tuple"
  | .ins _ _ => none
def isB (T : String) (d : D) : Option Bool := (tyN d).bind fun t => kitB t T
def isiE (T : String) (fa : M RV) : M RV := bh fa fun r => fun e => match (der e r).bind (isB T) with
  | some b => .ok (.sh (.bl b)) e
  | none => .st
/-- isinstance(x, c), c a class of one's own, x one of its instances -/
def isoE (cl : Str) (fa : M RV) : M RV := bh fa fun r => fun e => match der e r with
  | some (.ins c' _) => if c' = cl then .ok (.sh (.bl true)) e else .st
  | _ => .st
/-- what isinstance asks of a class besides -/
structure InsOk (G : Gb) (cl : Str) : Prop where
  cls : ∀ C, G.mg cl = some (.ref C) → Cls G.K C
  ha : ∀ C, G.mg cl = some (.ref C) → PySem.W.findIn G.K (.ref C) "__class__" = some (some (.builtin "object.__class__"))
  hn : PySem.W.specialIn G.K (.builtin "object.__class__") "__get__" = some (some (.builtin "getset_descriptor.__get__"))
  ht : PySem.W.takesIn G.K (.builtin "object.__class__") = some true
  hm : ∀ C, G.mg cl = some (.ref C) → PySem.W.mroIn G.K C (.type "object") = some true
section
variable {G : Gb} {c : Cp} {xa : XA} {fx : List Nat} {W : WX} {B : Bs} {F H F' H' F1 : Hp} {σ : St} {e : List Slot} {X : Cx} {a b d : Expr} {fa fb fc : M RV} {pos : Pos} {es : List Expr} {fs : List (M RV)}
theorem tyN_ok {d1 : D} {x : V} {t : String} (s : Same F H) (b : Bp G F H d1 x) (h : tyN d1 = some t) : TyX G.K H x (.type t) := by
  cases d1 with
  | non => cases h; cases b.non; exact .base .non
  | bl b' => cases h; cases b.bl; exact .base (.bl _)
  | int i => cases h; cases b.int; exact .base (.int _)
  | str z => cases h; cases b.str; exact .base (.str _)
  | lst xs => cases h; obtain ⟨a, vs, rfl, hl, r⟩ := b.lst s; exact .base (.lst hl)
  | scr xs =>
    cases h
    obtain ⟨a, rfl, hl⟩ := b.scr s
    rcases hl with (hl | ⟨o, hl⟩) | ⟨o, its, n, h1, h2, _⟩
    · exact .base (.lst hl)
    · exact .base (.frz hl)
    · exact .kList h1 h2
  | tup xs =>
    cases h
    obtain ⟨a, vs, rfl, hl, r⟩ := b.tup s
    rcases hl with (hl | ⟨o, hl⟩) | ⟨o, its, n, h1, h2, _⟩
    · exact .base (.tup hl)
    · exact .fTuple hl
    · exact .kTuple h1 h2
  | ins c fs => cases h
theorem boot_isi : bootBuiltins "isinstance" = some (.builtin "isinstance") := by decide +kernel
theorem de_isi {T : String} {x : Str} {p p2 : Pos} (h : chkG c "isinstance" = true) (hm : G.mg "isinstance" = none) (hx : chkG c x = true) (hmx : G.mg x = none) (hv : bootBuiltins x = some (.type T)) (ha : DE G c a fa) (hs : noStar a = true) :
    DE G c (.Call (.Name "isinstance" p) [a, .Name x p2] [] pos) (isiE T fa) := fun X xa g W tk => by
  obtain ⟨h1, h2, h3⟩ := chkG_ok h g
  obtain ⟨x1, x2, x3⟩ := chkG_ok hx g
  have pa : PA X [a, .Name x p2] (tCons (rdE G xa c.fx W fa) (tCons (tC (.ty T)) tNil)) := pa_cons (ha X xa g W tk) (pa_cons (pe_bltn x1 (by rw [g.mg]; exact hmx) hv rfl x3 x2) pa_nil) (noStar_ok hs)
  refine PE.weak (pe_callB call_isi h1 (by rw [g.mg]; exact hm) boot_isi pa h3 h2 (noStar_ok hs)) fun σ H Q ⟨B, F, e, o, pp⟩ => ?_
  refine (p_bh o pp).imp fun _ _ H1 _ _ _ q y rv => ?_
  obtain ⟨F1, e1, r1, s1, o1, k1, p1⟩ := q y rv
  cases e2 : der e1 r1 with
  | none => rw [e2] at p1; exact p1.elim
  | some d1 =>
    rw [e2] at p1
    cases e3 : tyN d1 with
    | none => simp only [Option.bind_some, isB, e3, Option.bind_none] at p1; exact p1.elim
    | some t =>
      simp only [Option.bind_some, isB, e3] at p1
      cases e4 : kitB t T with
      | none => rw [e4] at p1; exact p1.elim
      | some k =>
        rw [e4] at p1
        refine ⟨y, .ty T, .type t, .type T, k, rfl, .ty T, ?_, kit_ty e4, p1 F1 H1 (Same.refl _) o1 _ (.bl _)⟩
        rw [g.K]
        exact tyN_ok o1.same (der_ok o1 k1 e2) e3
theorem de_iso {cl : Str} {C : Addr} {p p2 : Pos} (T : InsOk G cl) (hC : G.mg cl = some (.ref C)) (h : chkG c "isinstance" = true) (hm : G.mg "isinstance" = none) (hx : chkG c cl = true) (ha : DE G c a fa) (hs : noStar a = true) :
    DE G c (.Call (.Name "isinstance" p) [a, .Name cl p2] [] pos) (isoE cl fa) := fun X xa g W tk => by
  obtain ⟨h1, h2, h3⟩ := chkG_ok h g
  obtain ⟨x1, x2, x3⟩ := chkG_ok hx g
  have pa : PA X [a, .Name cl p2] (tCons (rdE G xa c.fx W fa) (tCons (tC (.ref C)) tNil)) := pa_cons (ha X xa g W tk) (pa_cons (pe_glob x1 (by rw [g.mg]; exact hC) rfl x2) pa_nil) (noStar_ok hs)
  refine PE.weak (pe_callB call_isi h1 (by rw [g.mg]; exact hm) boot_isi pa h3 h2 (noStar_ok hs)) fun σ H Q ⟨B, F, e, o, pp⟩ => ?_
  refine (p_bh o pp).imp fun _ _ H1 _ _ _ q y rv => ?_
  obtain ⟨F1, e1, r1, s1, o1, k1, p1⟩ := q y rv
  split at p1
  · rename_i c' fs e2
    split at p1
    · rename_i ec
      subst ec
      have b := der_ok o1 k1 e2
      rcases b with b | ⟨_, _, _, _, z, _⟩
      · cases b with
        | @ins a2 C2 dx2 _ _ vfs m hF r =>
          have ea : C = C2 := by
            rw [hC] at m
            exact (Value.ref.inj (Option.some.inj m))
          subst ea
          refine ⟨_, .ref C, .ref C, .ref C, true, rfl, .own C, ?_, ?_, p1 F1 H1 (Same.refl _) o1 _ (.bl _)⟩
          · rw [g.K]
            exact .base (.ins (o1.same _ _ hF) (T.cls C hC) (T.ha C hC) T.hn T.ht (T.hm C hC))
          · unfold PySem.W.kitOne
            simp
      · cases z
    · exact p1.elim
  · exact p1.elim
end
end DL
set_option Elab.async false
set_option linter.all false
set_option maxRecDepth 100000
set_option maxHeartbeats 1000000
noncomputable section
namespace DL
open PySem PySem.Spec L2
open PyProof.Rows hiding St
set_option autoImplicit false

/-! ### statements -/
inductive Fl where
  | nx | rt (r : RV) | bk | ct
section
variable (G : Gb) (xa : XA) (fx : List Nat) (W : WX)
def PostS (B : Bs) (D : Ends) (F : Hp) : Out Fl → Prop
  | .ok .nx e => ∀ F' H' σ', Same F F' → Ok G xa fx B F' H' σ' e → D.nx σ' H'
  | .ok .bk e => ∀ F' H' σ', Same F F' → Ok G xa fx B F' H' σ' e → D.bk σ' H'
  | .ok .ct e => ∀ F' H' σ', Same F F' → Ok G xa fx B F' H' σ' e → D.ct σ' H'
  | .ok (.rt r) e => ∀ F' H' σ' v, Same F F' → Ok G xa fx B F' H' σ' e → RvOk G B F' H' σ' e v r → D.rt v H'
  | .ex c fs e => ∀ F' H' σ' cls d, Same F F' → Ok G xa fx B F' H' σ' e → ExOk G F' c fs cls d → W cls d σ' H'
  | .st => False
def rdS (f : M Fl) : TS := fun D σ H => ∃ B F e, Ok G xa fx B F H σ e ∧ PostS G xa fx W B D F (f e)
end
def DS (G : Gb) (c : Cp) (s : Stmt) (f : M Fl) : Prop := ∀ X xa, Good G c xa X → ∀ W, Takes X W → PS X s (rdS G xa c.fx W f)
def DSs (G : Gb) (c : Cp) (s : List Stmt) (f : M Fl) : Prop := ∀ X xa, Good G c xa X → ∀ W, Takes X W → PSs X s (rdS G xa c.fx W f)
def nxS : M Fl := fun e => .ok .nx e
def seqS (f g : M Fl) : M Fl := fun e => match f e with
  | .ok .nx e' => g e'
  | o => o
def setS (i : Nat) (f : M RV) : M Fl := bh f fun r => bnd (frzR r) fun d => fun e => .ok .nx (e.set i (.sh d))
/-- a list that the name owns (it is changed later) -/
def setM (i : Nat) (f : M RV) : M Fl := bnd f fun r => match r with
  | .fr xs => fun e => .ok .nx (e.set i (.ow xs))
  | r => bnd (frzR r) fun d => fun e => .ok .nx (e.set i (.sh d))
def ifS (t : M Bool) (f g : M Fl) : M Fl := bnd t fun b => if b = true then f else g
def retS (fx : List Nat) (f : M RV) : M Fl := bnd f fun r => match r with
  | .bo i => fun e => match e[i]? with
    | some (.ow xs) => if i ∈ fx then (bnd (frzR (.bo i)) fun d => fun e => .ok (.rt (.sh d)) e) e else .ok (.rt (.fr xs)) (e.set i .un)
    | _ => (bnd (frzR (.bo i)) fun d => fun e => .ok (.rt (.sh d)) e) e
  | r => fun e => .ok (.rt r) e
def dropS (f : M RV) : M Fl := bnd f fun _ => nxS
def lstAt (e : List Slot) (i : Nat) : Option (List D) := match e[i]? with
  | some (.ow xs) => some xs
  | _ => none
/-- a change of the list that name i owns: ahead of it the arguments -/
def chgS (i : Nat) (g : List D → D → Option (List D)) (f : M RV) : M Fl := fun e => match lstAt e i with
  | none => .st
  | some _ => (bh f fun r => bnd (frzR r) fun d => fun e => match (lstAt e i).bind fun xs => g xs d with
    | some ys => .ok .nx (e.set i (.ow ys))
    | none => .st) e
def appS (i : Nat) (f : M RV) : M Fl := chgS i (fun xs d => if gd (xs.length < 100000) then some (xs ++ [d]) else none) f
def clrS (i : Nat) : M Fl := fun e => match lstAt e i with
  | none => .st
  | some _ => .ok .nx (e.set i (.ow []))
def popE (i : Nat) : M RV := fun e => match lstAt e i with
  | none => .st
  | some xs => match xs[xs.length - 1]? with
    | some d => .ok (.sh d) (e.set i (.ow xs.dropLast))
    | none => .st
/-- x[k] = e -/
def putS (i : Nat) (fi fv : M RV) : M Fl := bh fv fun r => bnd (frzR r) fun d => fun e => match lstAt e i with
  | none => .st
  | some _ => (bh fi fun r => fun e => match der e r, lstAt e i with
    | some (.int k), some xs => (match ixN xs.length k with
      | some j => .ok .nx (e.set i (.ow (xs.set j d)))
      | none => .st)
    | _, _ => .st) e
/-- self.f = e, while the object is made -/
def fldS (cl : Str) (i : Nat) (f : Str) (fv : M RV) : M Fl := bh fv fun r => bnd (frzR r) fun d => fun e => match e[i]? with
  | some (.ob c fs) => if c = cl ∧ fs.length < 90 then .ok .nx (e.set i (.ob c (putD f d fs))) else .st
  | _ => .st
def raiS (c : Str) : M Fl := fun e => .ex c none e
section
variable {G : Gb} {c : Cp} {xa : XA} {fx : List Nat} {W : WX} {B : Bs} {F H F' H' F1 : Hp} {σ : St} {e : List Slot} {X : Cx} {a b d : Expr} {fa fb fc : M RV} {pos : Pos} {es : List Expr} {fs : List (M RV)} {D0 : Ends}
theorem PostS.mono {o : Out Fl} (s : Same F F1) (h : PostS G xa fx W B D0 F o) : PostS G xa fx W B D0 F1 o := by
  cases o with
  | ok a e => cases a with
    | nx => exact fun F' H' σ' s' k => h F' H' σ' (s.trans s') k
    | bk => exact fun F' H' σ' s' k => h F' H' σ' (s.trans s') k
    | ct => exact fun F' H' σ' s' k => h F' H' σ' (s.trans s') k
    | rt r => exact fun F' H' σ' v s' k => h F' H' σ' v (s.trans s') k
  | ex c fs e => exact fun F' H' σ' cls d s' k x => h F' H' σ' cls d (s.trans s') k x
  | st => exact h
theorem ps_bnd {α : Type} {m : M α} {k : α → M Fl} (o : Ok G xa fx B F H σ e) (p : PostS G xa fx W B D0 F (bnd m k e)) :
    rd G xa fx W m σ H fun B' F1 H1 e1 a => B' = B ∧ Same F F1 ∧ Ok G xa fx B F1 H1 σ e1 ∧ PostS G xa fx W B D0 F1 (k a e1) := by
  refine ⟨B, F, e, o, ?_⟩
  unfold bnd at p
  cases q : m e with
  | ok a e' => rw [q] at p; exact fun F' H' s k => ⟨rfl, s, k, p.mono s⟩
  | ex c fs e' => rw [q] at p; exact fun F' H' cls d s k x => p F' H' σ cls d s k x
  | st => rw [q] at p; exact p
theorem ps_bh {m : M RV} {k : RV → M Fl} (o : Ok G xa fx B F H σ e) (p : PostS G xa fx W B D0 F (bh m k e)) :
    rdE G xa fx W m σ H fun v H1 => ∃ F1 e1 r, Same F F1 ∧ Ok G xa fx B F1 H1 σ e1 ∧ HeldOk G F1 σ v r ∧ PostS G xa fx W B D0 F1 (k r e1) := by
  refine (ps_bnd o p).imp fun B' F1 H1 e1 a _ ⟨eb, s, o, p⟩ v rv => ?_
  subst eb
  obtain ⟨F2, s2, o2, hd⟩ := hold_ok o rv
  exact ⟨F2, e1, _, s.trans s2, o2, hd, p.mono s2⟩
theorem ps_be {m : M RV} {k : RV → M Fl} (o : Ok G xa fx B F H σ e) (p : PostS G xa fx W B D0 F (bnd m k e)) :
    rdE G xa fx W m σ H fun v H1 => ∃ F1 e1 r, Same F F1 ∧ Ok G xa fx B F1 H1 σ e1 ∧ RvOk G B F1 H1 σ e1 v r ∧ PostS G xa fx W B D0 F1 (k r e1) :=
  (ps_bnd o p).imp fun B' F1 H1 e1 a _ ⟨eb, s, o, p⟩ v rv => ⟨F1, e1, _, s, o, eb ▸ rv, p⟩
theorem ps_bt {m : M Bool} {k : Bool → M Fl} (o : Ok G xa fx B F H σ e) (p : PostS G xa fx W B D0 F (bnd m k e)) :
    rdT G xa fx W m σ H fun b H1 => ∃ F1 e1, Same F F1 ∧ Ok G xa fx B F1 H1 σ e1 ∧ PostS G xa fx W B D0 F1 (k b e1) :=
  (ps_bnd o p).imp fun B' F1 H1 e1 a _ ⟨eb, s, o, p⟩ => ⟨F1, e1, s, o, p⟩
theorem ps_frz {r : RV} {k : D → M Fl} {x : V} (o : Ok G xa fx B F H σ e) (h : HeldOk G F σ x r) (p : PostS G xa fx W B D0 F (bnd (frzR r) k e)) :
    ∃ F1 e1 d, Same F F1 ∧ Ok G xa fx B F1 H σ e1 ∧ Rp G F1 d x ∧ PostS G xa fx W B D0 F1 (k d e1) := by
  unfold bnd at p
  cases q : frzR r e with
  | ok d e' =>
    rw [q] at p
    obtain ⟨F', s, o', rp⟩ := frz_ok o h q
    exact ⟨F', e', d, s, o', rp, p.mono s⟩
  | ex c fs e' => exact absurd q frz_ex
  | st => rw [q] at p; exact p.elim
/-! blocks -/
theorem dss_nil : DSs G c [] nxS := fun X xa g W tk => PSs.weak pss_nil fun D σ H ⟨B, F, e, o, p⟩ => p F H σ (Same.refl _) o
variable {st : Stmt} {rest body : List Stmt} {f g0 : M Fl}
theorem rdS_seq {D : Ends} (h : rdS G xa fx W (seqS f g0) D σ H) : tSeq (rdS G xa fx W f) (rdS G xa fx W g0) D σ H := by
  obtain ⟨B, F, e, o, p⟩ := h
  refine ⟨B, F, e, o, ?_⟩
  unfold seqS at p
  cases q : f e with
  | ok a e' =>
    rw [q] at p
    cases a with
    | nx => exact fun F' H' σ' s k => ⟨B, F', e', k, p.mono s⟩
    | bk => exact p
    | ct => exact p
    | rt r => exact p
  | ex c fs e' => rw [q] at p; exact p
  | st => rw [q] at p; exact p
theorem dss_cons (h1 : DS G c st f) (h2 : DSs G c rest g0) : DSs G c (st :: rest) (seqS f g0) := fun X xa g W tk =>
  PSs.weak (pss_cons (h1 X xa g W tk) (h2 X xa g W tk)) fun D σ H h => rdS_seq h
theorem dss_one (h1 : DS G c st f) : DSs G c [st] f := fun X xa g W tk => pss_one (h1 X xa g W tk)
theorem ds_pass : DS G c (.Pass pos) nxS := fun X xa g W tk => PS.weak ps_pass fun D σ H ⟨B, F, e, o, p⟩ => p F H σ (Same.refl _) o
theorem ds_break : DS G c (.Break pos) (fun e => .ok .bk e) := fun X xa g W tk => PS.weak ps_break fun D σ H ⟨B, F, e, o, p⟩ => p F H σ (Same.refl _) o
theorem ds_cont : DS G c (.Continue pos) (fun e => .ok .ct e) := fun X xa g W tk => PS.weak ps_continue fun D σ H ⟨B, F, e, o, p⟩ => p F H σ (Same.refl _) o
variable {t : M Bool} {s1 s2 : List Stmt}
theorem ds_if (ht : DT G c a t) (h1 : DSs G c s1 f) (h2 : DSs G c s2 g0) : DS G c (.If a s1 s2 pos) (ifS t f g0) := fun X xa g W tk => PS.weak (ps_if (ht X xa g W tk) (h1 X xa g W tk) (h2 X xa g W tk)) fun D σ H ⟨B, F, e, o, p⟩ => by
  refine (ps_bt o p).imp fun _ _ H1 _ b _ ⟨F1, e1, s1, o1, p1⟩ => ?_
  cases b with
  | true => exact ⟨B, F1, e1, o1, p1⟩
  | false => exact ⟨B, F1, e1, o1, p1⟩
/-! stores -/
def noComp : Expr → Bool
  | .ListComp .. => false
  | .SetComp .. => false
  | .DictComp .. => false
  | _ => true
theorem noComp_ok {e : Expr} {t : Option Expr} {l : Nat} {env : Env} (h : noComp e = true) : swapsWith e t l env = pure false := by
  cases e <;> first | rfl | cases h
def chkL (c : Cp) (i : Nat) (x : Str) : Bool := decide (c.N[i]? = some x) && (decide (c.N.Nodup) && (c.top && (!decide (i ∈ c.fx) && (match c.sc.names.lookup x with
  | some .local => true
  | some .cell => true
  | _ => false))))
theorem chkL_ok {i : Nat} {x : Str} (h : chkL c i x = true) : c.N[i]? = some x ∧ c.N.Nodup ∧ c.top = true ∧ i ∉ c.fx ∧ L2.Loc c.sc x := by
  simp only [chkL, Bool.and_eq_true, decide_eq_true_eq, Bool.not_eq_true', decide_eq_false_iff_not] at h
  obtain ⟨h1, h2, h3, h4, h5⟩ := h
  refine ⟨h1, h2, h3, h4, ?_⟩
  unfold L2.Loc
  split at h5 <;> first | (exact .inl (by assumption)) | (exact .inr (by assumption)) | cases h5
theorem fin_set {i : Nat} {x : V} {r : RV} {D : Ends} (o : Ok G xa fx B F H σ e) (h : HeldOk G F σ x r) (hi : i ∉ fx) (p : PostS G xa fx W B D F (bnd (frzR r) (fun d => fun e => .ok .nx (e.set i (.sh d))) e)) : D.nx (σ.set i (some x)) H := by
  obtain ⟨F1, e1, d, s1, o1, rp, p1⟩ := ps_frz o h p
  exact p1 F1 H _ (Same.refl _) (o1.putS hi rp)
theorem rdS_set {i : Nat} {D : Ends} (hi : i ∉ fx) (h : rdS G xa fx W (setS i fa) D σ H) : rdE G xa fx W fa σ H fun x H1 => gName i x σ H1 D.nx := by
  obtain ⟨B, F, e, o, p⟩ := h
  refine (ps_bh o p).imp fun _ _ H1 _ _ _ q y rv => ?_
  obtain ⟨F1, e1, r1, s1, o1, k1, p1⟩ := q y rv
  exact fin_set o1 k1 hi p1
theorem rdS_setM {i : Nat} {D : Ends} (hi : i ∉ fx) (h : rdS G xa fx W (setM i fa) D σ H) : rdE G xa fx W fa σ H fun x H1 => gName i x σ H1 D.nx := by
  obtain ⟨B, F, e, o, p⟩ := h
  refine (ps_be o p).imp fun _ _ H1 _ _ _ q y rv => ?_
  obtain ⟨F1, e1, r1, s1, o1, k1, p1⟩ := q y rv
  cases r1 with
  | fr xs => exact p1 F1 H1 _ (Same.refl _) (o1.putR hi k1)
  | sh d => exact fin_set (r := .sh d) o1 k1 hi p1
  | bo j => exact fin_set (r := .bo j) o1 k1.1 hi p1
theorem ds_set {i : Nat} {x : Str} {pos' : Pos} (h : chkL c i x = true) (ha : DE G c a fa) (hs : noComp a = true) : DS G c (.Assign [.Name x pos'] a pos) (setS i fa) := fun X xa g W tk => by
  obtain ⟨h1, h2, h3, h4, h5⟩ := chkL_ok h
  exact PS.weak (ps_set (i := i) (by rw [g.hN]; exact h2) (by rw [g.hN]; exact h1) (by rw [g.sc]; exact h5) (ha X xa g W tk) (noComp_ok hs) (.inl (g.fn h3 x))) fun D σ H h => rdS_set h4 h
theorem ds_setM {i : Nat} {x : Str} {pos' : Pos} (h : chkL c i x = true) (ha : DE G c a fa) (hs : noComp a = true) : DS G c (.Assign [.Name x pos'] a pos) (setM i fa) := fun X xa g W tk => by
  obtain ⟨h1, h2, h3, h4, h5⟩ := chkL_ok h
  exact PS.weak (ps_set (i := i) (by rw [g.hN]; exact h2) (by rw [g.hN]; exact h1) (by rw [g.sc]; exact h5) (ha X xa g W tk) (noComp_ok hs) (.inl (g.fn h3 x))) fun D σ H h => rdS_setM h4 h
theorem ds_ret (ha : DE G c a fa) : DS G c (.Return (some a) pos) (retS c.fx fa) := fun X xa g W tk => PS.weak (ps_ret (ha X xa g W tk)) fun D σ H ⟨B, F, e, o, p⟩ => by
  refine (ps_be o p).imp fun _ _ H1 _ _ _ q y rv => ?_
  obtain ⟨F1, e1, r1, s1, o1, k1, p1⟩ := q y rv
  have fz : ∀ {i : Nat}, HeldOk G F1 σ y (.bo i) → PostS G xa c.fx W B D F1 (bnd (frzR (.bo i)) (fun d => fun e => .ok (.rt (.sh d)) e) e1) → D.rt y H1 := fun {i} hd p => by
    obtain ⟨F2, e2, d, s2, o2, rp, p2⟩ := ps_frz o1 hd p
    exact p2 F2 H1 σ y (Same.refl _) o2 rp
  cases r1 with
  | sh d => exact p1 F1 H1 σ y (Same.refl _) o1 k1
  | fr xs => exact p1 F1 H1 σ y (Same.refl _) o1 k1
  | bo i =>
    have hi : σ[i]? = some (some y) := k1.1
    obtain ⟨s, he, hs⟩ := k1.2
    simp only [he] at p1
    cases s with
    | ow xs =>
      simp only at p1
      by_cases hf : i ∈ c.fx
      · rw [if_pos hf] at p1
        exact fz hi p1
      · rw [if_neg hf] at p1
        obtain ⟨a, vs, ea, f1, f2, f3, f4, f5⟩ := o1.sl i _ _ he hi
        cases ea
        have bh : B.E a = none := f5.elim (fun z => absurd z hf) id
        have ow : Own e1 σ i a := ⟨hi, _, he, rfl⟩
        exact p1 F1 H1 σ _ (Same.refl _) (o1.unown i) ⟨a, vs, rfl, f1, f2, f3, f4, bh, o1.own_one ow⟩
    | ob c' fs => exact fz hi p1
    | _ => cases hs
/-! changes of what a name owns -/
theorem lstAt_ok {i : Nat} {xs : List D} (o : Ok G xa fx B F H σ e) (h : lstAt e i = some xs) {x : V} (hx : σ[i]? = some (some x)) : ∃ a vs, x = .ref a ∧ e[i]? = some (.ow xs) ∧ F a = none ∧ H a = some (.lst vs) ∧ RpL G F xs vs ∧ (B.H a = none ∨ a ∈ B.O) ∧ (i ∈ fx ∨ B.E a = none) := by
  unfold lstAt at h
  split at h
  · rename_i ys he
    cases h
    obtain ⟨a, vs, e1, f1, f2, f3, f4, f5⟩ := o.sl i _ _ he hx
    cases e1
    exact ⟨a, vs, rfl, he, f1, f2, f3, f4, f5⟩
  · cases h
theorem slot_there {i : Nat} {s : Slot} (o : Ok G xa fx B F H σ e) (h : e[i]? = some s) : ∃ o', σ[i]? = some o' := by
  have hl : i < e.length := (List.getElem?_eq_some_iff.mp h).1
  exact ⟨_, List.getElem?_eq_getElem (by rw [o.len]; exact hl)⟩
theorem lstAt_there {i : Nat} {xs : List D} (o : Ok G xa fx B F H σ e) (h : lstAt e i = some xs) : ∃ a vs, σ[i]? = some (some (.ref a)) ∧ e[i]? = some (.ow xs) ∧ F a = none ∧ H a = some (.lst vs) ∧ RpL G F xs vs ∧ (B.H a = none ∨ a ∈ B.O) ∧ (i ∈ fx ∨ B.E a = none) := by
  have he : e[i]? = some (.ow xs) := by
    unfold lstAt at h
    split at h
    · rename_i he; cases h; exact he
    · cases h
  obtain ⟨o', ho⟩ := slot_there o he
  obtain ⟨a, vs, e1, f1, f2, f3, f4, f5⟩ := o.sl i _ _ he ho
  subst e1
  exact ⟨a, vs, ho, he, f1, f2, f3, f4, f5⟩
theorem Ok.chg {i : Nat} {a : Addr} {xs ys : List D} {ws : List V} (o : Ok G xa fx B F H σ e) (hi : σ[i]? = some (some (.ref a))) (he : e[i]? = some (.ow xs)) (r : RpL G F ys ws) : Ok G xa fx B F (upd H a (.lst ws)) σ (e.set i (.ow ys)) := by
  obtain ⟨b, vs, e1, f1, f2, f3, f4, f5⟩ := o.sl i _ _ he hi
  cases e1
  exact o.change hi he rfl ⟨a, ws, rfl, f1, upd_same, r, f4, f5⟩
/-- x.m(e) -/
theorem ds_chg {i : Nat} {x m : Str} {id : String} {r : V → List V → Hp → VK → Prop} {g : List D → D → Option (List D)} {p apos pos' : Pos} (hx : chkV c i x = true) (pa : PlainAttrs "list") (slot : PySem.Slot "list" m id) (hty : typeOf (.builtin id) = pure (.type "method_descriptor")) (hm : ∀ X : Cx, MtR X id r)
    (hg : ∀ (F H : Hp) (xs ys : List D) (vs : List V) (d : D) (v : V) (a : Addr) (Q : VK), Same F H → H a = some (.lst vs) → RpL G F xs vs → Rp G F d v → g xs d = some ys → (∀ ws, RpL G F ys ws → Q .non (upd H a (.lst ws))) → r (.ref a) [v] H Q)
    (ha : DE G c a fa) (hs : noStar a = true) (hline : (apos.endLine == pos.line) = true := by rfl)
    (hfew : ∀ env, ((backTo pos (starEach [a] env)).all (fun x => !x.1) && (backToKw pos (keywordEach [] env)).all (fun x => x.1.isSome) && decide ([a].length + ([] : List Keyword).length + (if ([] : List Keyword).isEmpty then 0 else 1) < 30)) = true := by intro _; rfl) :
    DS G c (.Expr (.Call (.Attribute (.Name x p) m apos) [a] [] pos) pos') (chgS i g fa) := fun X xa gd W tk => by
  have hb : attributeBase (.Name x p) m X.env (eval (.Name x p) X.env) = eval (.Name x p) X.env := rfl
  simp only [chkV, Bool.and_eq_true, decide_eq_true_eq] at hx
  obtain ⟨h1, h2, h3⟩ := visB_ok hx.2
  have pv : PE X (.Name x p) (tVar i) := pe_var (i := i) (by rw [gd.hN]; exact hx.1) (by rw [gd.sc]; exact h1) h2 h3
  refine PS.weak (ps_expr (pe_bm pa slot hty (hm X) pv (pa_cons (ha X xa gd W tk) pa_nil (noStar_ok hs)) hb (hfew _) hline (noStar_ok hs) rfl)) fun D σ H ⟨B, F, e, o, pp⟩ => ?_
  unfold chgS at pp
  cases q0 : lstAt e i with
  | none => rw [q0] at pp; exact pp.elim
  | some xs0 =>
    rw [q0] at pp
    obtain ⟨a0, vs0, hi, _, _, hh0, _, _⟩ := lstAt_there o q0
    refine ⟨_, hi, .inl ⟨rfl, _, by rw [gd.K]; exact SqL.of hh0⟩, (ps_bh o pp).imp fun _ _ H1 _ _ _ q y rv => ?_⟩
    obtain ⟨F1, e1, r1, s1, o1, k1, p1⟩ := q y rv
    obtain ⟨F2, e2, d, s2, o2, rp, p2⟩ := ps_frz o1 k1 p1
    cases q1 : lstAt e2 i with
    | none => rw [q1] at p2; exact p2.elim
    | some xs =>
      rw [q1] at p2
      cases q2 : g xs d with
      | none => simp only [Option.bind_some, q2] at p2; exact p2.elim
      | some ys =>
        simp only [Option.bind_some, q2] at p2
        obtain ⟨a1, vs, hi1, he1, f1, hh, r1, _⟩ := lstAt_there o2 q1
        rw [hi] at hi1
        cases hi1
        refine hg F2 H1 xs ys vs d y a0 _ o2.same hh r1 rp q2 fun ws rw' => ?_
        exact p2 F2 _ σ (Same.refl _) (o2.chg hi he1 rw')
end
end DL
set_option Elab.async false
set_option linter.all false
set_option maxRecDepth 100000
set_option maxHeartbeats 1000000
noncomputable section
namespace DL
open PySem PySem.Spec L2
open PyProof.Rows hiding St
set_option autoImplicit false
section
variable {G : Gb} {c : Cp} {xa : XA} {fx : List Nat} {W : WX} {B : Bs} {F H F' H' F1 : Hp} {σ : St} {e : List Slot} {X : Cx} {a b d : Expr} {fa fb fc : M RV} {pos : Pos} {es : List Expr} {fs : List (M RV)} {D0 : Ends}
theorem ds_app {i : Nat} {x : Str} {p apos pos' : Pos} (hx : chkV c i x = true) (ha : DE G c a fa) (hs : noStar a = true) (hline : (apos.endLine == pos.line) = true := by rfl)
    (hfew : ∀ env, ((backTo pos (starEach [a] env)).all (fun x => !x.1) && (backToKw pos (keywordEach [] env)).all (fun x => x.1.isSome) && decide ([a].length + ([] : List Keyword).length + (if ([] : List Keyword).isEmpty then 0 else 1) < 30)) = true := by intro _; rfl) :
    DS G c (.Expr (.Call (.Attribute (.Name x p) "append" apos) [a] [] pos) pos') (appS i fa) :=
  ds_chg hx PySem.F.plainAttrs_list PySem.F.slot_list_append PySem.F.type_list_append (fun X => mt_append (X := X)) (fun F H xs ys vs d v a Q s hH r rp hg k => by
    split at hg
    · rename_i hz
      cases hg
      refine ⟨a, vs, v, rfl, rfl, hH, ?_, k _ (r.append (.one rp))⟩
      rw [← r.length]
      exact Nat.lt_of_lt_of_le hz (by decide)
    · cases hg) ha hs hline hfew
/-- x.extend(e), e a list -/
def extS (i : Nat) (f : M RV) : M Fl := chgS i (fun xs d => match d with
  | .lst ys => if gd (xs.length + ys.length ≤ 100000) then some (xs ++ ys) else none
  | _ => none) f
theorem ds_ext {i : Nat} {x : Str} {p apos pos' : Pos} (hx : chkV c i x = true) (ha : DE G c a fa) (hs : noStar a = true) (hline : (apos.endLine == pos.line) = true := by rfl)
    (hfew : ∀ env, ((backTo pos (starEach [a] env)).all (fun x => !x.1) && (backToKw pos (keywordEach [] env)).all (fun x => x.1.isSome) && decide ([a].length + ([] : List Keyword).length + (if ([] : List Keyword).isEmpty then 0 else 1) < 30)) = true := by intro _; rfl) :
    DS G c (.Expr (.Call (.Attribute (.Name x p) "extend" apos) [a] [] pos) pos') (extS i fa) :=
  ds_chg hx PySem.F.plainAttrs_list PySem.F.slot_list_extend PySem.F.type_list_extend (fun X => mt_extend (X := X)) (fun F H xs ys vs d v a Q s hH r rp hg k => by
    split at hg
    · rename_i zs
      split at hg
      · rename_i hz
        cases hg
        cases rp with
        | @lst b ws _ hF r2 =>
          refine ⟨a, b, vs, ws, rfl, rfl, hH, s _ _ hF, ?_, k _ (r.append r2)⟩
          rw [← r.length, ← r2.length]
          exact size_le hz
      · cases hg
    · cases hg) ha hs hline hfew
theorem ds_clr {i : Nat} {x : Str} {p apos pos' : Pos} (hx : chkV c i x = true) (hline : (apos.endLine == pos.line) = true := by rfl) :
    DS G c (.Expr (.Call (.Attribute (.Name x p) "clear" apos) [] [] pos) pos') (clrS i) := fun X xa gd W tk => by
  have hb : attributeBase (.Name x p) "clear" X.env (eval (.Name x p) X.env) = eval (.Name x p) X.env := rfl
  simp only [chkV, Bool.and_eq_true, decide_eq_true_eq] at hx
  obtain ⟨h1, h2, h3⟩ := visB_ok hx.2
  have pv : PE X (.Name x p) (tVar i) := pe_var (i := i) (by rw [gd.hN]; exact hx.1) (by rw [gd.sc]; exact h1) h2 h3
  refine PS.weak (ps_expr (pe_bm0 PySem.F.plainAttrs_list PySem.F.slot_list_clear PySem.F.type_list_clear mt_clear pv hb hline)) fun D σ H ⟨B, F, e, o, pp⟩ => ?_
  unfold clrS at pp
  cases q0 : lstAt e i with
  | none => rw [q0] at pp; exact pp.elim
  | some xs0 =>
    rw [q0] at pp
    obtain ⟨a0, vs0, hi, he, _, hh0, _, _⟩ := lstAt_there o q0
    exact ⟨_, hi, .inl ⟨rfl, _, by rw [gd.K]; exact SqL.of hh0⟩, a0, vs0, rfl, rfl, hh0, pp F _ σ (Same.refl _) (o.chg hi he .nil)⟩
theorem de_pop {i : Nat} {x : Str} {p apos : Pos} (hx : chkV c i x = true) (hline : (apos.endLine == pos.line) = true := by rfl) :
    DE G c (.Call (.Attribute (.Name x p) "pop" apos) [] [] pos) (popE i) := fun X xa gd W tk => by
  have hb : attributeBase (.Name x p) "pop" X.env (eval (.Name x p) X.env) = eval (.Name x p) X.env := rfl
  simp only [chkV, Bool.and_eq_true, decide_eq_true_eq] at hx
  obtain ⟨h1, h2, h3⟩ := visB_ok hx.2
  have pv : PE X (.Name x p) (tVar i) := pe_var (i := i) (by rw [gd.hN]; exact hx.1) (by rw [gd.sc]; exact h1) h2 h3
  refine PE.weak (pe_bm0 PySem.F.plainAttrs_list PySem.F.slot_list_pop PySem.F.type_list_pop mt_pop pv hb hline) fun σ H Q ⟨B, F, e, o, pp⟩ => ?_
  unfold popE at pp
  cases q0 : lstAt e i with
  | none => rw [q0] at pp; exact pp.elim
  | some xs0 =>
    rw [q0] at pp
    obtain ⟨a0, vs0, hi, he, _, hh0, r, _⟩ := lstAt_there o q0
    cases q1 : xs0[xs0.length - 1]? with
    | none => simp only [q1] at pp; exact pp.elim
    | some d =>
      simp only [q1] at pp
      obtain ⟨y, hy, rp⟩ := r.get q1
      rw [r.length] at hy
      exact ⟨_, hi, .inl ⟨rfl, _, by rw [gd.K]; exact SqL.of hh0⟩, a0, vs0, y, rfl, rfl, hh0, hy, pp F _ (Same.refl _) (o.chg hi he r.dropLast) y rp⟩
/-- x[k] = e -/
theorem ds_put {i : Nat} {x : Str} {p p2 pos' : Pos} (hx : chkV c i x = true) (hi : DE G c b fb) (hv : DE G c a fa) (hs : noComp a = true)
    (has : ∀ env v, assign (.Subscript (.Name x p) b p2) env v = (do
      let ov ← holding [v] (eval (.Name x p) env)
      let iv ← holding [v, ov] (eval b env)
      standAt p2
      holding [v, ov, iv] (setItem ov iv v)
      release [v, ov, iv] []) := by intro _ _; rfl)
    (hsw : ∀ env, swapsWithSole [.Subscript (.Name x p) b p2] a pos.line env = pure false := by intro _; rfl) (hst : ∀ env, swappedStores [.Subscript (.Name x p) b p2] a env = pure none := by intro _; rfl)
    (h1 : ∀ env, (assignEach [.Subscript (.Name x p) b p2] env).map (·.2) = [assign (.Subscript (.Name x p) b p2) env] := by intro _; rfl) :
    DS G c (.Assign [.Subscript (.Name x p) b p2] a pos) (putS i fb fa) := fun X xa gd W tk => by
  simp only [chkV, Bool.and_eq_true, decide_eq_true_eq] at hx
  obtain ⟨g1, g2, g3⟩ := visB_ok hx.2
  have pv : PE X (.Name x p) (tVar i) := pe_var (i := i) (by rw [gd.hN]; exact hx.1) (by rw [gd.sc]; exact g1) g2 g3
  refine PS.weak (ps_asg (hv X xa gd W tk) (pg_sub pv (hi X xa gd W tk) set_list (has _)) (hsw _) (hst _) (h1 _)) fun D σ H ⟨B, F, e, o, pp⟩ => ?_
  refine (ps_bh o pp).imp fun _ _ H1 _ _ _ q y rv => ?_
  obtain ⟨F1, e1, r1, s1, o1, k1, p1⟩ := q y rv
  obtain ⟨F2, e2, d, s2, o2, rp, p2⟩ := ps_frz o1 k1 p1
  cases q0 : lstAt e2 i with
  | none => rw [q0] at p2; exact p2.elim
  | some xs0 =>
    rw [q0] at p2
    obtain ⟨a0, vs0, hi0, he0, _, hh0, r0, _⟩ := lstAt_there o2 q0
    refine ⟨_, hi0, (ps_bh o2 p2).imp fun _ _ H3 _ _ _ q z rv => ?_⟩
    obtain ⟨F3, e3, r3, s3, o3, k3, p3⟩ := q z rv
    split at p3
    · rename_i k xs q1 q2
      split at p3
      · rename_i j q3
        obtain ⟨a1, vs, hi1, he1, f1, hh, r1, _⟩ := lstAt_there o3 q2
        rw [hi0] at hi1
        cases hi1
        have ez := (der_ok o3 k3 q1).int
        subst ez
        rw [r1.length] at q3
        exact ⟨a0, vs, k, j, rfl, rfl, hh, q3, p3 F3 _ σ (Same.refl _) (o3.chg hi0 he1 (RpL.set (rp.mono s3) j r1))⟩
      · exact p3.elim
    · exact p3.elim
theorem RpF.put {f : Str} {d1 : D} {x : V} (rp : Rp G F d1 x) : ∀ {fs : Fds} {vs : List (Str × V)}, RpF G F fs vs → RpF G F (putD f d1 fs) (putF f x vs)
  | _, _, .nil => .cons rp .nil
  | _, _, .cons (f := g) r t => by
    unfold putD putF
    by_cases h : g = f
    · rw [if_pos h, if_pos h]; exact .cons rp t
    · rw [if_neg h, if_neg h]; exact .cons r (RpF.put rp t)
/-- self.f = e -/
theorem ds_fld {i : Nat} {x f cl : Str} {fl : List Str} {p pos' : Pos} (T : ClsOk G cl fl) (hf : f ∈ fl) (hx : chkV c i x = true) (hv : DE G c a fa) (hs : noComp a = true) : DS G c (.Assign [.Attribute (.Name x p) f pos'] a pos) (fldS cl i f fa) := fun X xa gd W tk => by
  simp only [chkV, Bool.and_eq_true, decide_eq_true_eq] at hx
  obtain ⟨g1, g2, g3⟩ := visB_ok hx.2
  have pv : PE X (.Name x p) (tVar i) := pe_var (i := i) (by rw [gd.hN]; exact hx.1) (by rw [gd.sc]; exact g1) g2 g3
  refine PS.weak (ps_fld pv (hv X xa gd W tk) (noComp_ok hs)) fun D σ H ⟨B, F, e, o, pp⟩ => ?_
  refine (ps_bh o pp).imp fun _ _ H1 _ _ _ q y rv => ?_
  obtain ⟨F1, e1, r1, s1, o1, k1, p1⟩ := q y rv
  obtain ⟨F2, e2, d, s2, o2, rp, p2⟩ := ps_frz o1 k1 p1
  split at p2
  · rename_i c2 fs he
    split at p2
    · rename_i hz
      obtain ⟨o0, ho0⟩ := slot_there o2 he
      obtain ⟨a1, C, dx, vfs, ea, f1, hh, m, r, f4, f5⟩ := o2.sl i _ _ he ho0
      subst ea
      obtain ⟨ec, hz⟩ := hz
      have m' := m
      rw [ec] at m
      refine ⟨_, ho0, a1, C, dx, vfs, rfl, hh, by rw [gd.K]; exact T.cls C m, by rw [gd.K]; exact T.no C m f hf, by rw [← r.length]; omega, ?_⟩
      exact p2 F2 _ σ (Same.refl _) (o2.change ho0 he rfl ⟨a1, C, dx, _, rfl, f1, upd_same, m', RpF.put rp r, f4, f5⟩)
    · exact p2.elim
  · exact p2.elim
theorem ds_expr (ha : DE G c a fa) (hs : noComp a = true) : DS G c (.Expr a pos) (dropS fa) := fun X xa gd W tk => PS.weak (ps_expr (ha X xa gd W tk) (noComp_ok hs)) fun D σ H ⟨B, F, e, o, pp⟩ => by
  refine (ps_be o pp).imp fun _ _ H1 _ _ _ q y rv => ?_
  obtain ⟨F1, e1, r1, s1, o1, k1, p1⟩ := q y rv
  exact p1 F1 H1 σ (Same.refl _) o1
end

/-! ### loops -/
structure ItOk (G : Gb) (F : Hp) (J : It) (ds : List D) : Prop where
  go : ∀ F1 H1 i, Same F F1 → Same F1 H1 → i < ds.length → J.go i H1
  yld : ∀ F1 H1 i x H2, Same F F1 → Same F1 H1 → i < ds.length → J.yld i H1 x H2 → H2 = H1 ∧ ∃ d, ds[i]? = some d ∧ Rp G F1 d x
  stop : ∀ F1 H1, Same F F1 → Same F1 H1 → J.stop ds.length H1
def rdI (G : Gb) (xa : XA) (fx : List Nat) (W : WX) (f : M (List D)) : TI := fun σ H R => rd G xa fx W f σ H fun _ F' H' _ ds => ∀ J, ItOk G F' J ds → R J H'
def DI (G : Gb) (c : Cp) (e : Expr) (f : M (List D)) : Prop := ∀ X xa, Good G c xa X → ∀ W, Takes X W → ∀ tg, PI X tg e (rdI G xa c.fx W f)
theorem PI.weak {X : Cx} {tg e : Expr} {t t' : TI} (h : PI X tg e t) (k : ∀ σ H Q, t' σ H Q → t σ H Q) : PI X tg e t' := by
  obtain ⟨r⟩ := h
  exact ⟨fun pins s σ H Q I q => r pins s σ H Q I (k σ H Q q)⟩
def itL (f : M RV) : M (List D) := bh f fun r => bnd (frzR r) fun d => fun e => match d with
  | .lst xs => .ok xs e
  | _ => .st
def itT (f : M RV) : M (List D) := bh f fun r => bnd (frzR r) fun d => fun e => match d with
  | .tup xs => .ok xs e
  | _ => .st
def rngD (lo : Int) (n : Nat) : List D := (List.range n).map fun k => .int (lo + (k : Nat))
def asI' (m : M RV) : M Int := bnd m fun r => fun e => match r with
  | .sh (.int i) => .ok i e
  | _ => .st
def itR1 (f : M RV) : M (List D) := bnd (asI' f) fun n => fun e => if gd (-1000000 < n ∧ n < 1000000) then .ok (rngD 0 n.toNat) e else .st
def itR2 (f g : M RV) : M (List D) := bnd (asI' f) fun a => bnd (asI' g) fun b => fun e => if gd ((-1000000 < a ∧ a < 1000000) ∧ (-1000000 < b ∧ b < 1000000)) then .ok (rngD a (b - a).toNat) e else .st
def forL (ix : Nat) (body : M Fl) : List D → M Fl
  | [] => nxS
  | d :: ds => fun e => match body (e.set ix (.sh d)) with
    | .ok .nx e' => forL ix body ds e'
    | .ok .ct e' => forL ix body ds e'
    | .ok .bk e' => .ok .nx e'
    | .ok (.rt r) e' => .ok (.rt r) e'
    | .ex c fs e' => .ex c fs e'
    | .st => .st
def forS (ix : Nat) (it : M (List D)) (body : M Fl) : M Fl := bnd it fun ds => forL ix body ds
def whileN (t : M Bool) (body : M Fl) : Nat → M Fl
  | 0 => fun _ => .st
  | n + 1 => bnd t fun b => if b = true then (fun e => match body e with
    | .ok .nx e' => whileN t body n e'
    | .ok .ct e' => whileN t body n e'
    | .ok .bk e' => .ok .nx e'
    | .ok (.rt r) e' => .ok (.rt r) e'
    | .ex c fs e' => .ex c fs e'
    | .st => .st) else nxS
def FUEL : Nat := 1000000
def whileS (t : M Bool) (body : M Fl) : M Fl := whileN t body FUEL
section
variable {G : Gb} {c : Cp} {xa : XA} {fx : List Nat} {W : WX} {B : Bs} {F H F' H' F1 : Hp} {σ : St} {e : List Slot} {X : Cx} {a b d : Expr} {fa fb fc : M RV} {pos : Pos} {es : List Expr} {fs : List (M RV)} {D0 : Ends}
theorem itl_ok {K : PySem.W.Frag} {l : Addr} {vs : List V} {ds : List D} (hl : F l = some (.lst vs)) (r : RpL G F ds vs) : ItOk G F (Itl K l) ds where
  go := fun F1 H1 i s1 s2 hi => by
    obtain ⟨v, hv, rv⟩ := r.get (List.getElem?_eq_getElem hi)
    exact ⟨vs, v, SqL.of (s2 _ _ (s1 _ _ hl)), hv⟩
  yld := fun F1 H1 i x H2 s1 s2 hi ⟨e, k⟩ => by
    have hx := k vs (SqL.of (s2 _ _ (s1 _ _ hl)))
    obtain ⟨d, hd, rd⟩ := r.getV hx
    exact ⟨e, d, hd, rd.mono s1⟩
  stop := fun F1 H1 s1 s2 => ⟨vs, SqL.of (s2 _ _ (s1 _ _ hl)), by rw [r.length]; exact Nat.le_refl _⟩
theorem itt_ok {l : Addr} {vs : List V} {ds : List D} (hl : SqT G.K F l vs) (r : RpL G F ds vs) : ItOk G F (Itt G.K l) ds where
  go := fun F1 H1 i s1 s2 hi => by
    obtain ⟨v, hv, rv⟩ := r.get (List.getElem?_eq_getElem hi)
    exact ⟨vs, v, Same.seqT s2 (Same.seqT s1 hl), hv⟩
  yld := fun F1 H1 i x H2 s1 s2 hi ⟨e, k⟩ => by
    have hx := k vs (Same.seqT s2 (Same.seqT s1 hl))
    obtain ⟨d, hd, rd⟩ := r.getV hx
    exact ⟨e, d, hd, rd.mono s1⟩
  stop := fun F1 H1 s1 s2 => ⟨vs, Same.seqT s2 (Same.seqT s1 hl), by rw [r.length]; exact Nat.le_refl _⟩
theorem rngD_len {lo : Int} {n : Nat} : (rngD lo n).length = n := by unfold rngD; rw [List.length_map, List.length_range]
theorem itr_ok {lo : Int} {n : Nat} : ItOk G F (Itr lo n) (rngD lo n) where
  go := fun F1 H1 i s1 s2 hi => by rw [rngD_len] at hi; exact hi
  yld := fun F1 H1 i x H2 s1 s2 hi ⟨e, k⟩ => by
    rw [rngD_len] at hi
    refine ⟨e, .int (lo + (i : Nat)), ?_, by rw [k]; exact .int _⟩
    unfold rngD
    rw [List.getElem?_map, List.getElem?_range hi] <;> rfl
  stop := fun F1 H1 s1 s2 => by rw [rngD_len]; exact Nat.le_refl _
theorem di_list (ha : DE G c a fa) : DI G c a (itL fa) := fun X xa gd W tk tg => PI.weak (pi_list (ha X xa gd W tk)) fun σ H R ⟨B, F, e, o, p⟩ => by
  refine (p_bh o p).imp fun _ _ H1 _ _ _ q y rv => ?_
  obtain ⟨F1, e1, r1, s1, o1, k1, p1⟩ := q y rv
  obtain ⟨F2, e2, d, s2, o2, rp, p2⟩ := p_frz o1 k1 p1
  split at p2
  · rename_i xs
    cases rp with
    | lst hl r => exact ⟨_, rfl, ⟨_, SqL.of (o2.same _ _ hl)⟩, p2 F2 H1 (Same.refl _) o2 _ (itl_ok hl r)⟩
  · exact p2.elim
theorem di_tup (ha : DE G c a fa) : DI G c a (itT fa) := fun X xa gd W tk tg => PI.weak (pi_tup (ha X xa gd W tk)) fun σ H R ⟨B, F, e, o, p⟩ => by
  refine (p_bh o p).imp fun _ _ H1 _ _ _ q y rv => ?_
  obtain ⟨F1, e1, r1, s1, o1, k1, p1⟩ := q y rv
  obtain ⟨F2, e2, d, s2, o2, rp, p2⟩ := p_frz o1 k1 p1
  split at p2
  · rename_i xs
    cases rp with
    | tup hl r =>
      refine ⟨_, rfl, ⟨_, by rw [gd.K]; exact Same.seqT o2.same hl⟩, ?_⟩
      rw [gd.K]
      exact p2 F2 H1 (Same.refl _) o2 _ (itt_ok hl r)
  · exact p2.elim
theorem p_bi {β : Type} {m : M RV} {k : Int → M β} {Kx : Hp → Hp → List Slot → β → Prop} (o : Ok G xa fx B F H σ e) (p : Post G xa fx W B F σ Kx (bnd (asI' m) k e)) :
    rdE G xa fx W m σ H fun v H1 => ∃ i F1 e1, v = .int i ∧ Same F F1 ∧ Ok G xa fx B F1 H1 σ e1 ∧ Post G xa fx W B F1 σ Kx (k i e1) := by
  unfold asI' at p
  rw [bnd_bnd] at p
  refine (p_be o p).imp fun _ _ H1 _ _ _ q y rv => ?_
  obtain ⟨F1, e1, r, s, o1, rv1, p1⟩ := q y rv
  unfold bnd at p1
  cases r with
  | sh d => cases d with
    | int i => cases rv1; exact ⟨i, F1, e1, rfl, s, o1, p1⟩
    | _ => exact p1.elim
  | _ => exact p1.elim
theorem di_r1 {p : Pos} (h : chkG c "range" = true) (hm : G.mg "range" = none) (ha : DE G c a fa) (hs : noStar a = true) : DI G c (.Call (.Name "range" p) [a] [] pos) (itR1 fa) := fun X xa gd W tk tg => by
  obtain ⟨h1, h2, h3⟩ := chkG_ok h gd
  refine PI.weak (pi_range1 h1 (by rw [gd.mg]; exact hm) (pa_cons (ha X xa gd W tk) pa_nil (noStar_ok hs)) (noStar_ok hs)) fun σ H R ⟨B, F, e, o, p⟩ => ?_
  refine (p_bi o p).imp fun _ _ H1 _ _ _ q y rv => ?_
  obtain ⟨i, F1, e1, ey, s1, o1, p1⟩ := q y rv
  subst ey
  split at p1
  · rename_i hz
    have hz : -1000000 < i ∧ i < 1000000 := hz
    exact ⟨i, rfl, by omega, by omega, p1 F1 H1 (Same.refl _) o1 _ itr_ok⟩
  · exact p1.elim
theorem di_r2 {p : Pos} (h : chkG c "range" = true) (hm : G.mg "range" = none) (ha : DE G c a fa) (hb : DE G c b fb) (hs : noStar a = true) (hs2 : noStar b = true) : DI G c (.Call (.Name "range" p) [a, b] [] pos) (itR2 fa fb) := fun X xa gd W tk tg => by
  obtain ⟨h1, h2, h3⟩ := chkG_ok h gd
  refine PI.weak (pi_range2 h1 (by rw [gd.mg]; exact hm) (pa_cons (ha X xa gd W tk) (pa_cons (hb X xa gd W tk) pa_nil (noStar_ok hs2)) (noStar_ok hs)) (by rw [noStar_ok hs, noStar_ok hs2]; rfl) (noStar_ok hs2)) fun σ H R ⟨B, F, e, o, p⟩ => ?_
  refine (p_bi o p).imp fun _ _ H1 _ _ _ q y rv => ?_
  obtain ⟨i, F1, e1, ey, s1, o1, p1⟩ := q y rv
  subst ey
  refine (p_bi o1 p1).imp fun _ _ H2 _ _ _ q z rv => ?_
  obtain ⟨j, F2, e2, ez, s2, o2, p2⟩ := q z rv
  subst ez
  split at p2
  · rename_i hz
    have hz : (-1000000 < i ∧ i < 1000000) ∧ (-1000000 < j ∧ j < 1000000) := hz
    exact ⟨i, j, rfl, by omega, p2 F2 H2 (Same.refl _) o2 _ itr_ok⟩
  · exact p2.elim
theorem ps_bI {m : M (List D)} {k : List D → M Fl} (o : Ok G xa fx B F H σ e) (p : PostS G xa fx W B D0 F (bnd m k e)) :
    rdI G xa fx W m σ H fun J H1 => ∃ F1 e1 ds, Same F F1 ∧ Ok G xa fx B F1 H1 σ e1 ∧ ItOk G F1 J ds ∧ PostS G xa fx W B D0 F1 (k ds e1) :=
  (ps_bnd o p).imp fun B' F1 H1 e1 a _ ⟨eb, s, o, p⟩ J hJ => ⟨F1, e1, a, s, o, hJ, p⟩
theorem noSet_fold {e : Expr} (h : noSet e = true) : ∀ env (x : Value), foldedSetIterable e env x = pure x := fun env x => by
  cases e <;> first | rfl | cases h
theorem ds_for {ix : Nat} {x : Str} {it : M (List D)} {body : List Stmt} {f : M Fl} {pos' : Pos} (h : chkL c ix x = true) (hc : c.cm = true) (hi : DI G c a it) (hb : DSs G c body f) (hs : noSet a = true) :
    DS G c (.For (.Name x pos') a body [] pos) (forS ix it f) := fun X xa gd W tk => by
  obtain ⟨h1, h2, h3, h4, h5⟩ := chkL_ok h
  refine PS.weak (ps_for gd.own (by rw [gd.cm]; exact hc) (hi X xa gd W tk _) (pg_name (i := ix) (by rw [gd.hN]; exact h2) (by rw [gd.hN]; exact h1) (by rw [gd.sc]; exact h5) (.inl (gd.fn h3 x))) (hb X xa gd W tk) (noSet_fold hs _)) fun D σ H ⟨B, F, e, o, p⟩ => ?_
  refine (ps_bI o p).imp fun _ _ H1 _ _ _ q J hJ => ?_
  obtain ⟨F1, e1, ds, s1, o1, hI, p1⟩ := q J hJ
  refine ⟨fun i m σ H => m = ds.length - i ∧ i ≤ ds.length ∧ ∃ F2 e2, Same F1 F2 ∧ Ok G xa c.fx B F2 H σ e2 ∧ PostS G xa c.fx W B D F2 (forL ix f (ds.drop i) e2), ⟨ds.length, by simp, Nat.zero_le _, F1, e1, Same.refl _, o1, p1⟩, ?_⟩
  rintro i m σ2 H2 ⟨rfl, hi, F2, e2, s2, o2, p2⟩
  by_cases hlt : i < ds.length
  · refine .inr ⟨hI.go F2 H2 i s2 o2.same hlt, fun σ H => ∃ F2 e2, Same F1 F2 ∧ Ok G xa c.fx B F2 H σ e2 ∧ PostS G xa c.fx W B D F2 (forL ix f (ds.drop (i + 1)) e2), fun σ' H' n => ⟨_, by omega, rfl, hlt, n⟩, fun y H3 hy => ?_⟩
    obtain ⟨e3, d, hd, rd⟩ := hI.yld F2 H2 i y H3 s2 o2.same hlt hy
    subst e3
    have ed : ds.drop i = d :: ds.drop (i + 1) := by
      rw [List.drop_eq_getElem_cons hlt]
      rw [List.getElem?_eq_getElem hlt] at hd
      rw [Option.some.inj hd]
    rw [ed] at p2
    refine ⟨B, F2, e2.set ix (.sh d), o2.putS h4 rd, ?_⟩
    simp only [forL] at p2
    cases q2 : f (e2.set ix (.sh d)) with
    | ok r e3 =>
      rw [q2] at p2
      cases r with
      | nx => exact fun F' H' σ' s o' => ⟨F', e3, s2.trans s, o', p2.mono s⟩
      | ct => exact fun F' H' σ' s o' => ⟨F', e3, s2.trans s, o', p2.mono s⟩
      | bk => exact p2
      | rt r => exact p2
    | ex c' fs e3 => rw [q2] at p2; exact p2
    | st => rw [q2] at p2; exact p2
  · have ei : i = ds.length := by omega
    subst ei
    rw [List.drop_length] at p2
    exact .inl ⟨hI.stop F2 H2 s2 o2.same, p2 F2 H2 σ2 (Same.refl _) o2⟩
theorem ds_while {t : M Bool} {body : List Stmt} {f : M Fl} (ht : DT G c a t) (hb : DSs G c body f) : DS G c (.While a body [] pos) (whileS t f) := fun X xa gd W tk => by
  refine PS.weak (ps_while gd.own (ht X xa gd W tk) (hb X xa gd W tk)) fun D σ H ⟨B, F, e, o, p⟩ => ?_
  refine ⟨fun m σ H => ∃ F2 e2, Ok G xa c.fx B F2 H σ e2 ∧ PostS G xa c.fx W B D F2 (whileN t f m e2), ⟨FUEL, F, e, o, p⟩, ?_⟩
  rintro m σ2 H2 ⟨F2, e2, o2, p2⟩
  cases m with
  | zero => exact p2.elim
  | succ n =>
    simp only [whileN] at p2
    refine (ps_bt o2 p2).imp fun _ _ H3 _ b _ ⟨F3, e3, s3, o3, p3⟩ => ?_
    cases b with
    | false => exact p3 F3 H3 σ2 (Same.refl _) o3
    | true =>
      simp only [if_true] at p3 ⊢
      refine ⟨fun σ H => ∃ F2 e2, Ok G xa c.fx B F2 H σ e2 ∧ PostS G xa c.fx W B D F2 (whileN t f n e2), fun σ' H' q => ⟨n, Nat.lt_succ_self _, q⟩, B, F3, e3, o3, ?_⟩
      cases q2 : f e3 with
      | ok r e4 =>
        rw [q2] at p3
        cases r with
        | nx => exact fun F' H' σ' s o' => ⟨F', e4, o', p3.mono s⟩
        | ct => exact fun F' H' σ' s o' => ⟨F', e4, o', p3.mono s⟩
        | bk => exact p3
        | rt r => exact p3
      | ex c' fs e4 => rw [q2] at p3; exact p3
      | st => rw [q2] at p3; exact p3
end
end DL
set_option Elab.async false
set_option linter.all false
set_option maxRecDepth 100000
set_option maxHeartbeats 1000000
noncomputable section
namespace DL
open PySem PySem.Spec L2
open PyProof.Rows hiding St
set_option autoImplicit false

/-! ### list comprehensions -/
/-- the items, one by one: the list so far -/
def compL (ix : Nat) (test : M Bool) (elt : M RV) : List D → List D → List Slot → Out (List D)
  | [], acc, e => .ok acc e
  | d :: ds, acc, e => match test (e.set ix (.sh d)) with
    | .ok true e1 => match (bh elt fun r => frzR r) e1 with
      | .ok y e2 => if gd (acc.length < 100000) then compL ix test elt ds (acc ++ [y]) (e2.set ix .un) else .st
      | _ => .st
    | .ok false e1 => compL ix test elt ds acc (e1.set ix .un)
    | _ => .st
def compE (ix : Nat) (it : M (List D)) (test : M Bool) (elt : M RV) : M RV := bnd it fun ds => fun e => match e[ix]? with
  | some s => if isOw s then .st else match compL ix test elt ds [] (e.set ix .un) with
    | .ok acc e' => .ok (.fr acc) (e'.set ix s)
    | _ => .st
  | none => .st
def yesT : M Bool := fun e => .ok true e
/-- the place in a comprehension -/
def inC (c : Cp) (scope : Scope) : Cp := { c with sc := relS scope c.sc, top := false }
structure DTs (G : Gb) (c : Cp) (ifs : List Expr) (f : M Bool) : Prop where
  run : ∀ X xa, Good G c xa X → ∀ W, Takes X W → PTs X ifs (rdT G xa c.fx W f)
section
variable {G : Gb} {c : Cp} {xa : XA} {fx : List Nat} {W : WX} {B : Bs} {F H F' H' F1 : Hp} {σ : St} {e : List Slot} {X : Cx} {a b d : Expr} {fa fb fc : M RV} {pos : Pos} {es : List Expr} {fs : List (M RV)} {D0 : Ends}
theorem dts_nil : DTs G c [] yesT := ⟨fun X xa gd W tk => ⟨fun pins s σ H Q I h => by
  obtain ⟨B, F, e, o, p⟩ := h
  exact pts_nil.run pins s σ H Q I (p F H (Same.refl _) o)⟩⟩
theorem dts_one {t : M Bool} (h : DT G c a t) : DTs G c [a] t := ⟨fun X xa gd W tk => pts_one (h X xa gd W tk)⟩
/-- what nobody names is changed -/
theorem Ok.bump {p : Addr} {u : HO} (o : Ok G xa fx B F H σ e) (hF : F p = none) (hB : B.H p = none ∨ p ∈ B.O) (no : ∀ i, ¬ Own e σ i p) : Ok G xa fx B F (upd H p u) σ e where
  same := fun b q h => by
    have hb : b ≠ p := fun z => by rw [z, hF] at h; cases h
    rw [upd_ne hb]; exact o.same b q h
  sF := o.sF
  kH := fun b q h n => by
    have hb : b ≠ p := fun z => by
      subst z
      rcases hB with k | k
      · rw [k] at h; cases h
      · exact n k
    rw [upd_ne hb]; exact o.kH b q h n
  dom := fun b q z => by
    by_cases hb : b = p
    · subst hb; rw [upd_same] at z; cases z
    · rw [upd_ne hb] at z; exact o.dom b q z
  domE := fun b q z => by
    by_cases hb : b = p
    · subst hb; rw [upd_same] at z; cases z
    · rw [upd_ne hb] at z; exact o.domE b q z
  nF := o.nF
  len := o.len
  sl := fun i s o' h1 h2 => by
    have z := o.sl i s o' h1 h2
    have ne : ∀ b, o' = some (.ref b) → isOw s = true → b ≠ p := fun b eo hs q => no i ⟨by rw [h2, eo, q], s, h1, hs⟩
    cases s with
    | un => trivial
    | sh d => exact z
    | ow xs => obtain ⟨b, vs, e1, f, hh, r, q⟩ := z; exact ⟨b, vs, e1, f, by rw [upd_ne (ne b e1 rfl)]; exact hh, r, q⟩
    | ob c fs => obtain ⟨b, C, dx, vfs, e1, f, hh, m, r, q⟩ := z; exact ⟨b, C, dx, vfs, e1, f, by rw [upd_ne (ne b e1 rfl)]; exact hh, m, r, q⟩
    | ex c fs => exact z
  dj := o.dj
  fix := o.fix
/-- a name is forgotten, and comes back -/
theorem Ok.hide {ix : Nat} (o : Ok G xa fx B F H σ e) (hi : ix ∉ fx) (ov : Option V) : Ok G xa fx B F H (σ.set ix ov) (e.set ix .un) where
  same := o.same
  sF := o.sF
  kH := o.kH
  dom := o.dom
  domE := o.domE
  nF := o.nF
  len := by rw [List.length_set, List.length_set]; exact o.len
  sl := fun j t o' h1 h2 => by
    by_cases hj : ix = j
    · subst hj
      have hl : ix < e.length := by have := (List.getElem?_eq_some_iff.mp h1).1; rwa [List.length_set] at this
      rw [List.getElem?_set_self hl] at h1; cases h1
      trivial
    · rw [List.getElem?_set_ne hj] at h1 h2; exact o.sl j t o' h1 h2
  dj := fun j k a n h1 h2 => by
    have key : ∀ m, Own (e.set ix .un) (σ.set ix ov) m a → Own e σ m a := fun m hm => by
      by_cases hq : ix = m
      · subst hq
        obtain ⟨q1, t, q2, q3⟩ := hm
        have hl : ix < e.length := by have := (List.getElem?_eq_some_iff.mp q2).1; rwa [List.length_set] at this
        rw [List.getElem?_set_self hl] at q2; cases q2; cases q3
      · exact own_set_ne hq hm
    exact o.dj j k a n (key j h1) (key k h2)
  fix := fun j hj => by
    have hne : ix ≠ j := fun z => by rw [z] at hi; exact hi hj
    rw [List.getElem?_set_ne hne]; exact o.fix j hj
theorem Own.hide {ix j : Nat} {p : Addr} {ov : Option V} {s : Slot} (hs : isOw s = false) (h : Own (e.set ix s) (σ.set ix ov) j p) : Own e σ j p := by
  by_cases hq : ix = j
  · subst hq
    obtain ⟨q1, t, q2, q3⟩ := h
    have hl : ix < e.length := by have := (List.getElem?_eq_some_iff.mp q2).1; rwa [List.length_set] at this
    rw [List.getElem?_set_self hl] at q2; cases q2; rw [hs] at q3; cases q3
  · exact own_set_ne hq h
theorem Own.hideE {ix j : Nat} {p : Addr} {s : Slot} (hs : isOw s = false) (h : Own (e.set ix s) σ j p) : Own e σ j p := by
  obtain ⟨q1, t, q2, q3⟩ := h
  by_cases hq : ix = j
  · subst hq
    have hl : ix < e.length := by have := (List.getElem?_eq_some_iff.mp q2).1; rwa [List.length_set] at this
    rw [List.getElem?_set_self hl] at q2; cases q2; rw [hs] at q3; cases q3
  · rw [List.getElem?_set_ne hq] at q2
    exact ⟨q1, t, q2, q3⟩
def chkC (c : Cp) (ix : Nat) (x : Str) (scope : Scope) : Bool := decide (c.N[ix]? = some x) && (decide (c.N.Nodup) && (!decide (ix ∈ c.fx) && (c.cm && (blkC c.N c.sc scope [(x, ix)] && decide ((relS scope c.sc).names.lookup x = some .local)))))
theorem good_blk (gd : Good G c xa X) (hx : xa = none) {scope : Scope} {s : Shared} {H0 : Hp} {C : Addr} {cl : List (Str × Addr)} {fp : List Addr} :
    Good G (inC c scope) none (X.blk s H0 scope (compEnvC scope cl C X.env) fp) where
  prog := gd.prog
  w := gd.w
  K := gd.K
  mg := gd.mg
  base := gd.base
  hN := gd.hN
  sc := by show relS scope X.env.scope = relS scope c.sc; rw [gd.sc]
  cm := gd.cm
  room := gd.room
  own := PassesOwn.never
  fn := fun z => by cases z
  stk := fun z => by cases z
  xn := fun _ => rfl
  hx := fun _ _ _ z => by cases z
theorem takesF {X : Cx} : Takes X (fun _ _ _ _ => False) := fun _ _ ⟨_, _, _, _, _, _, _, _, _, _, _, _, _, _, _, _, w⟩ => w.elim
theorem ok_ex_here (o : Ok G xa fx B F H σ e) {p : Addr} {u : HO} (hH : H p = some u) (hF : F p = none) (no : ∀ i, ¬ Own e σ i p) {σ2 : St} {e2 : List Slot} (k : Ok G xa fx (here B F H σ e) F' H' σ2 e2) : H' p = some u ∧ F' p = none := by
  have nm : p ∉ ownL e σ := fun z => by
    obtain ⟨i, hi⟩ := ownL_iff.mp z
    exact no i hi
  exact ⟨k.kH p u hH nm, k.nF p hF (ne_none hH) nm⟩
/-- one who is named behind it was named ahead of it, or is new -/
theorem own_back (o : Ok G xa fx B F H σ e) {p : Addr} {u : HO} (hH : H p = some u) (no : ∀ i, ¬ Own e σ i p) {σ2 : St} {e2 : List Slot} (k : Ok G xa fx (here B F H σ e) F' H' σ2 e2) (i : Nat) : ¬ Own e2 σ2 i p := fun ho => by
  rcases k.own_base (ownL_iff.mpr ⟨i, ho⟩) with z | z
  · have z' : H p = none := z
    rw [hH] at z'; cases z'
  · obtain ⟨j, hj⟩ := ownL_iff.mp (show p ∈ ownL e σ from z)
    exact no j hj
theorem rd_comp {ix : Nat} {it : M (List D)} {test : M Bool} {elt : M RV} {Q : VK} (hx : ix ∉ fx) (h : rdE G none fx W (compE ix it test elt) σ H Q) :
    tLc (rdI G none fx W it) (gName ix) (rdT G none fx (fun _ _ _ _ => False) test) (rdE G none fx (fun _ _ _ _ => False) elt) [ix] σ H Q := by
  obtain ⟨B, F, e, o, p⟩ := h
  refine (p_bnd o p).imp fun B' F1 H1 e1 ds _ ⟨eb, s1, o1, p1⟩ J hI L0 hD => ?_
  subst eb
  cases he : e1[ix]? with
  | none => rw [he] at p1; exact p1.elim
  | some s =>
    rw [he] at p1
    simp only at p1
    cases hs : isOw s with
    | true => rw [hs] at p1; exact p1.elim
    | false =>
      rw [hs, if_neg Bool.false_ne_true] at p1
      cases hr : compL ix test elt ds [] (e1.set ix .un) with
      | ex c' fs' e' => rw [hr] at p1; exact p1.elim
      | st => rw [hr] at p1; exact p1.elim
      | ok accF eF =>
        rw [hr] at p1
        have hFD : F1 L0 = none := o1.same.free hD
        have bD : B'.H L0 = none := o1.fresh hD
        have bE : B'.E L0 = none := o1.freshE hD
        have ow1 := o1.hide hx none
        have no1 : ∀ j, ¬ Own (e1.set ix .un) (σ.set ix none) j L0 := fun j hj => (o1.own_there (Own.hide rfl hj)).1 hD
        obtain ⟨o0, ho0⟩ := slot_there o1 he
        refine ⟨fun i m H' => m = ds.length - i ∧ i ≤ ds.length ∧ ∃ F2 e2 acc vs, Same F1 F2 ∧ Ok G none fx B' F2 H' (σ.set ix none) e2 ∧ F2 L0 = none ∧ H' L0 = some (.lst vs) ∧ RpL G F2 acc vs ∧ (∀ j, ¬ Own e2 (σ.set ix none) j L0) ∧ compL ix test elt (ds.drop i) acc e2 = .ok accF eF,
          ⟨ds.length, by simp, Nat.zero_le _, F1, _, [], [], Same.refl _, ow1.bump hFD (.inl bD) no1, hFD, upd_same, .nil, no1, hr⟩, ?_⟩
        rintro i m H2 ⟨rfl, hi, F2, e2, acc, vs, s2, o2, fD, hHD, rl, no2, hq⟩
        by_cases hlt : i < ds.length
        · refine .inr ⟨hI.go F2 H2 i s2 o2.same hlt, fun H' => ∃ F2 e2 acc vs, Same F1 F2 ∧ Ok G none fx B' F2 H' (σ.set ix none) e2 ∧ F2 L0 = none ∧ H' L0 = some (.lst vs) ∧ RpL G F2 acc vs ∧ (∀ j, ¬ Own e2 (σ.set ix none) j L0) ∧ compL ix test elt (ds.drop (i + 1)) acc e2 = .ok accF eF, fun H' n => ⟨_, by omega, rfl, hlt, n⟩, fun y H3 hy => ?_⟩
          obtain ⟨e3, d, hd, rd0⟩ := hI.yld F2 H2 i y H3 s2 o2.same hlt hy
          subst e3
          have ed : ds.drop i = d :: ds.drop (i + 1) := by
            rw [List.drop_eq_getElem_cons hlt]
            rw [List.getElem?_eq_getElem hlt] at hd
            rw [Option.some.inj hd]
          rw [ed] at hq
          simp only [compL] at hq
          have o3 := o2.putS hx rd0
          have no3 : ∀ j, ¬ Own (e2.set ix (.sh d)) ((σ.set ix none).set ix (some y)) j L0 := fun j hj => no2 j (Own.hide rfl hj)
          show wipe ((σ.set ix none).set ix (some y)) [ix] = wipe σ [ix] ∧ _
          refine ⟨by show ((σ.set ix none).set ix (some y)).set ix none = σ.set ix none; rw [List.set_set, List.set_set], here B' F2 H3 ((σ.set ix none).set ix (some y)) (e2.set ix (.sh d)), F2, _, o3.here, ?_⟩
          -- back to the invariant, the item's name forgotten
          have fin : ∀ {F5 H5 : Hp} {e5 : List Slot} {acc' : List D} {ws : List V}, Same F2 F5 → Ok G none fx (here B' F2 H3 ((σ.set ix none).set ix (some y)) (e2.set ix (.sh d))) F5 H5 ((σ.set ix none).set ix (some y)) e5 → RpL G F5 acc' ws →
              compL ix test elt (ds.drop (i + 1)) acc' (e5.set ix .un) = .ok accF eF → (ws = vs ∨ ∃ z, ws = vs ++ [z]) →
              (H5 L0 = some (.lst vs) ∧ ∃ F2 e2 acc vs, Same F1 F2 ∧ Ok G none fx B' F2 (upd H5 L0 (.lst ws)) (σ.set ix none) e2 ∧ F2 L0 = none ∧ (upd H5 L0 (.lst ws)) L0 = some (.lst vs) ∧ RpL G F2 acc vs ∧ (∀ j, ¬ Own e2 (σ.set ix none) j L0) ∧ compL ix test elt (ds.drop (i + 1)) acc e2 = .ok accF eF) := by
            intro F5 H5 e5 acc' ws s5 k5 r5 q5 _
            obtain ⟨h5, f5⟩ := ok_ex_here o3 hHD fD no3 k5
            have no5 := own_back o3 hHD no3 k5
            have o5 := (o3.back k5).hide hx none
            have no6 : ∀ j, ¬ Own (e5.set ix .un) (((σ.set ix none).set ix (some y)).set ix none) j L0 := fun j hj => no5 j (Own.hide rfl hj)
            rw [List.set_set, List.set_set] at o5 no6
            exact ⟨h5, F5, _, acc', ws, s2.trans s5, o5.bump f5 (.inl bD) no6, f5, upd_same, r5, no6, q5⟩
          cases q1 : test (e2.set ix (.sh d)) with
          | ex c' fs' e' => rw [q1] at hq; cases hq
          | st => rw [q1] at hq; cases hq
          | ok bb e3 =>
            rw [q1] at hq
            intro F3 H4 s3 k3
            cases bb with
            | false =>
              rw [if_neg Bool.false_ne_true]
              obtain ⟨h5, F6, e6, a6, v6, z1, z2, z3, z4, z5, z6, z7⟩ := fin s3 k3 (rl.mono s3) hq (.inl rfl)
              have eH : upd H4 L0 (.lst vs) = H4 := by
                funext b
                by_cases hb : b = L0
                · rw [hb, upd_same, h5]
                · rw [upd_ne hb]
              rw [eH] at z2 z4
              exact ⟨F6, e6, a6, v6, z1, z2, z3, z4, z5, z6, z7⟩
            | true =>
              rw [if_pos rfl]
              refine ⟨here B' F2 H3 ((σ.set ix none).set ix (some y)) (e2.set ix (.sh d)), F3, e3, k3, ?_⟩
              simp only at hq
              cases q2 : elt e3 with
              | ex c' fs' e' => simp only [bh, bnd, q2] at hq; cases hq
              | st => simp only [bh, bnd, q2] at hq; cases hq
              | ok r e4 =>
                simp only [bh, bnd, q2] at hq
                intro F4 H5 s4 k4 z rz
                obtain ⟨F5, s5, k5, hd5⟩ := hold_ok k4 rz
                cases q3 : frzR (holdR r) e4 with
                | ex c' fs' e' => exact absurd q3 frz_ex
                | st => rw [q3] at hq; cases hq
                | ok yd e5 =>
                  rw [q3] at hq
                  simp only at hq
                  obtain ⟨F6, s6, k6, r6⟩ := frz_ok k5 hd5 q3
                  by_cases hz : gd (acc.length < 100000)
                  · rw [if_pos hz] at hq
                    have sall : Same F2 F6 := s3.trans (s4.trans (s5.trans s6))
                    obtain ⟨h7, w7⟩ := fin sall k6 ((rl.mono sall).append (.one r6)) hq (.inr ⟨_, rfl⟩)
                    refine ⟨vs, h7, ?_, w7⟩
                    rw [← rl.length]
                    exact Nat.lt_of_lt_of_le hz (by decide)
                  · rw [if_neg hz] at hq; cases hq
        · have ei : i = ds.length := by omega
          subst ei
          rw [List.drop_length] at hq
          simp only [compL] at hq
          cases hq
          refine .inl ⟨hI.stop F2 H2 s2 o2.same, ?_⟩
          -- the name is back
          have os : Ok G none fx B' F2 H2 σ (eF.set ix s) := by
            refine ⟨o2.same, o2.sF, o2.kH, o2.dom, o2.domE, o2.nF, by rw [List.length_set]; have := o2.len; rw [List.length_set] at this; exact this, fun j t o' h1 h2 => ?_, fun j k a n h1 h2 => ?_, fun j hj => o1.fix j hj⟩
            · by_cases hj : ix = j
              · subst hj
                have hl : ix < eF.length := by have := (List.getElem?_eq_some_iff.mp h1).1; rwa [List.length_set] at this
                rw [List.getElem?_set_self hl] at h1; cases h1
                have z := o1.sl ix s o' he h2
                cases s with
                | un => trivial
                | sh d => obtain ⟨v, e1, r⟩ := z; exact ⟨v, e1, r.mono s2⟩
                | ex c fs => obtain ⟨a, C, d, e1, e3, m, f⟩ := z; exact ⟨a, C, d, e1, e3, m, f.mono s2⟩
                | ow xs => cases hs
                | ob c fs => cases hs
              · rw [List.getElem?_set_ne hj] at h1
                exact o2.sl j t o' h1 (by rw [List.getElem?_set_ne hj]; exact h2)
            · have key : ∀ m, Own (eF.set ix s) σ m a → Own eF (σ.set ix none) m a := fun m hm => by
                obtain ⟨q1, t, q2, q3⟩ := hm
                by_cases hq : ix = m
                · subst hq
                  have hl : ix < eF.length := by have := (List.getElem?_eq_some_iff.mp q2).1; rwa [List.length_set] at this
                  rw [List.getElem?_set_self hl] at q2; cases q2; rw [hs] at q3; cases q3
                · rw [List.getElem?_set_ne hq] at q2
                  exact ⟨by rw [List.getElem?_set_ne hq]; exact q1, t, q2, q3⟩
              exact o2.dj j k a n (key j h1) (key k h2)
          refine p1 F2 H2 s2 os _ ⟨L0, vs, rfl, fD, hHD, rl, .inl bD, bE, fun j hj => ?_⟩
          obtain ⟨q1, t, q2, q3⟩ := hj
          by_cases hq : ix = j
          · subst hq
            have hl : ix < eF.length := by have := (List.getElem?_eq_some_iff.mp q2).1; rwa [List.length_set] at this
            rw [List.getElem?_set_self hl] at q2; cases q2; rw [hs] at q3; cases q3
          · rw [List.getElem?_set_ne hq] at q2
            exact no2 j ⟨by rw [List.getElem?_set_ne hq]; exact q1, t, q2, q3⟩
theorem chkC_ok {ix : Nat} {x : Str} {scope : Scope} (h : chkC c ix x scope = true) : c.N[ix]? = some x ∧ c.N.Nodup ∧ ix ∉ c.fx ∧ c.cm = true ∧ BlkOk c.N c.sc scope [(x, ix)] ∧ (relS scope c.sc).names.lookup x = some .local := by
  simp only [chkC, Bool.and_eq_true, decide_eq_true_eq, Bool.not_eq_true', decide_eq_false_iff_not] at h
  obtain ⟨h1, h2, h3, h4, h5, h6⟩ := h
  exact ⟨h1, h2, h3, h4, blkOk_by h5, h6⟩
section
variable {ix : Nat} {x : Str} {scope : Scope} {it : M (List D)} {test : M Bool} {elt iter : Expr} {ifs : List Expr} {fe : M RV} {px : Pos}
theorem pgc (gd : Good G c xa X) (h : chkC c ix x scope = true) (s : Shared) (H : Hp) (C : Addr) (cl : List (Str × Addr)) (fp : List Addr) : PG (X.blk s H scope (compEnvC scope cl C X.env) fp) (.Name x px) (gName ix) := by
  obtain ⟨h1, h2, h3, h4, h5, h6⟩ := chkC_ok h
  have hl : (X.blk s H scope (compEnvC scope cl C X.env) fp).env.scope.names.lookup x = some .local := by
    show (relS scope X.env.scope).names.lookup x = some .local
    rw [gd.sc]; exact h6
  exact pg_name (i := ix) (by show X.N.Nodup; rw [gd.hN]; exact h2) (by show X.N[ix]? = _; rw [gd.hN]; exact h1) (.inl hl) (.inr hl)
theorem de_comp (h : chkC c ix x scope = true) (hi : DI G c iter it) (ht : DTs G (inC c scope) ifs test) (he : DE G (inC c scope) elt fe) (hs : noSet iter = true) : DE G c (.ListComp elt [⟨.Name x px, iter, ifs, 0⟩] scope pos) (compE ix it test fe) := fun X xa gd W tk => by
  obtain ⟨h1, h2, h3, h4, h5, h6⟩ := chkC_ok h
  have e0 := gd.xn h4
  subst e0
  refine PE.weak (pe_lc (own := [(x, ix)]) (by rw [gd.cm]; exact h4) (by rw [gd.hN]; exact h2) (hi X none gd W tk _) (by rw [gd.hN, gd.sc]; exact h5) (pgc gd h)
    (fun s H C cl fp => ht.run _ none (good_blk gd rfl) _ takesF) (fun s H C cl fp => he _ none (good_blk gd rfl) _ takesF) (noSet_fold hs _)) fun σ H Q q => rd_comp h3 q
/-- name = [..], the name a local one -/
theorem ds_setC {i : Nat} {y : Str} {py : Pos} {spos : Pos} (hl : chkL c i y = true) (hyl : decide (c.sc.names.lookup y = some .local) = true) (hk : c.sc.kind = .function) (hln : (py.line == pos.line) = true) (hsc : (scope.names.any fun (n, k) => n == y && (k == .local || k == .cell)) = false)
    (h : chkC c ix x scope = true) (hi : DI G c iter it) (ht : DTs G (inC c scope) ifs test) (he : DE G (inC c scope) elt fe) (hs : noSet iter = true) : DS G c (.Assign [.Name y py] (.ListComp elt [⟨.Name x px, iter, ifs, 0⟩] scope pos) spos) (setS i (compE ix it test fe)) := fun X xa gd W tk => by
  obtain ⟨h1, h2, h3, h4, h5, h6⟩ := chkC_ok h
  obtain ⟨g1, g2, g3, g4, g5⟩ := chkL_ok hl
  have e0 := gd.xn h4
  subst e0
  have hy : X.env.scope.names.lookup y = some .local := by rw [gd.sc]; exact of_decide_eq_true hyl
  refine PS.weak (ps_setLc (i := i) (own := [(x, ix)]) (by rw [gd.cm]; exact h4) (by rw [gd.hN]; exact h2) (by rw [gd.hN]; exact g1) hy (sw_true (by rw [gd.sc]; exact hk) hy hln hsc) (hi X none gd W tk _) (by rw [gd.hN, gd.sc]; exact h5) (pgc gd h)
    (fun s H C cl fp => ht.run _ none (good_blk gd rfl) _ takesF) (fun s H C cl fp => he _ none (good_blk gd rfl) _ takesF) (noSet_fold hs _)) fun D σ H q => rd_comp h3 (rdS_set g4 q)
theorem ds_setMC {i : Nat} {y : Str} {py : Pos} {spos : Pos} (hl : chkL c i y = true) (hyl : decide (c.sc.names.lookup y = some .local) = true) (hk : c.sc.kind = .function) (hln : (py.line == pos.line) = true) (hsc : (scope.names.any fun (n, k) => n == y && (k == .local || k == .cell)) = false)
    (h : chkC c ix x scope = true) (hi : DI G c iter it) (ht : DTs G (inC c scope) ifs test) (he : DE G (inC c scope) elt fe) (hs : noSet iter = true) : DS G c (.Assign [.Name y py] (.ListComp elt [⟨.Name x px, iter, ifs, 0⟩] scope pos) spos) (setM i (compE ix it test fe)) := fun X xa gd W tk => by
  obtain ⟨h1, h2, h3, h4, h5, h6⟩ := chkC_ok h
  obtain ⟨g1, g2, g3, g4, g5⟩ := chkL_ok hl
  have e0 := gd.xn h4
  subst e0
  have hy : X.env.scope.names.lookup y = some .local := by rw [gd.sc]; exact of_decide_eq_true hyl
  refine PS.weak (ps_setLc (i := i) (own := [(x, ix)]) (by rw [gd.cm]; exact h4) (by rw [gd.hN]; exact h2) (by rw [gd.hN]; exact g1) hy (sw_true (by rw [gd.sc]; exact hk) hy hln hsc) (hi X none gd W tk _) (by rw [gd.hN, gd.sc]; exact h5) (pgc gd h)
    (fun s H C cl fp => ht.run _ none (good_blk gd rfl) _ takesF) (fun s H C cl fp => he _ none (good_blk gd rfl) _ takesF) (noSet_fold hs _)) fun D σ H q => rd_comp h3 (rdS_setM g4 q)
/-- name = [..], the name one that a comprehension reads (a cell) -/
theorem swap_cell {elt : Expr} {gs : List Comprehension} {scope : Scope} {pos py : Pos} {y : Str} {l : Nat} {env : Env} (h : env.scope.names.lookup y = some .cell) : swapsWith (.ListComp elt gs scope pos) (some (.Name y py)) l env = pure false := by
  have ky : env.kindOf y = some .cell := h
  unfold swapsWith
  simp only [ky]
  have : (some NameKind.cell == some NameKind.local) = false := rfl
  simp only [this, Bool.and_false, Bool.false_and]
theorem ds_setD {i : Nat} {y : Str} {py : Pos} {elt : Expr} {gs : List Comprehension} {scope : Scope} (h : chkL c i y = true) (hc : decide (c.sc.names.lookup y = some .cell) = true) {spos : Pos} (ha : DE G c (.ListComp elt gs scope pos) fa) : DS G c (.Assign [.Name y py] (.ListComp elt gs scope pos) spos) (setS i fa) := fun X xa g W tk => by
  obtain ⟨h1, h2, h3, h4, h5⟩ := chkL_ok h
  exact PS.weak (ps_set (i := i) (by rw [g.hN]; exact h2) (by rw [g.hN]; exact h1) (by rw [g.sc]; exact h5) (ha X xa g W tk) (swap_cell (by rw [g.sc]; exact of_decide_eq_true hc)) (.inl (g.fn h3 y))) fun D σ H h => rdS_set h4 h
end
end
end DL
set_option Elab.async false
set_option linter.all false
set_option maxRecDepth 100000
set_option maxHeartbeats 1000000
noncomputable section
namespace DL
open PySem PySem.Spec L2
open PyProof.Rows hiding St
set_option autoImplicit false

/-! ### defs and calls -/
inductive FOut where
  | ok (r : RV) | ex (c : Str) (fs : Option Fds) | st
def callU (g : List D → FOut) (fs : List (M RV)) : M RV := bnd (argsM fs) fun rs => bnd (frzL rs) fun ds => fun e => match g ds with
  | .ok r => .ok r e
  | .ex c f => .ex c f e
  | .st => .st
def defF (np n : Nat) (body : M Fl) (ds : List D) : FOut := match body (ds.map .sh ++ List.replicate (n - np) .un) with
  | .ok (.rt (.sh d)) _ => .ok (.sh d)
  | .ok (.rt (.fr xs)) _ => .ok (.fr xs)
  | .ok .nx _ => .ok (.sh .non)
  | .ex c fs _ => .ex c fs
  | _ => .st
/-- an __init__: what the new object is -/
def mkF (cl : Str) (np n : Nat) (body : M Fl) (ds : List D) : FOut := match body (.ob cl [] :: ds.map .sh ++ List.replicate (n - np) .un) with
  | .ok .nx e => (match (e[0]? : Option Slot) with
    | some (.ob c fs) => .ok (.sh (.ins c fs))
    | some (.sh d) => .ok (.sh d)
    | _ => .st)
  | .ex c fs _ => .ex c fs
  | _ => .st
def spOf (G : Gb) (np : Nat) (g : List D → FOut) : Sp := fun vs H Q E => ∃ F ds, Same F H ∧ RpL G F ds vs ∧ vs.length = np ∧ match g ds with
  | .ok r => ∀ F' H' v, Ext F H F' H' → NewOk G H F' H' v r → Q v H'
  | .ex c fs => ∀ F' H' cls d, Ext F H F' H' → ExOk G F' c fs cls d → E cls d H'
  | .st => False
/-- a def that may be called -/
structure FnI (G : Gb) (k : Nat) (x : Str) (np : Nat) (g : List D → FOut) : Prop where
  ex : ∃ f fd ps, ps.length = np ∧ G.mg x = some (.ref f) ∧ PySem.W.keepIn G.K (.ref f) = true ∧ Binds G.K fd ps [] ∧ FnOk G.P G.w G.K G.mg G.base (L2.CX G.P G.w) k f fd ps (spOf G np g)
/-- a new object at x: what stood is kept -/
structure ExtX (x : Addr) (F H F' H' : Hp) : Prop where
  sF : Same F F'
  s : Same F' H'
  kp : ∀ b o, H b = some o → b ≠ x → H' b = some o
  nw : ∀ b, F b = none → H b ≠ none → b ≠ x → F' b = none
def spMk (G : Gb) (cl : Str) (np : Nat) (g : List D → FOut) : Sp := fun vs H Q E => ∃ F ds x C dx rest, vs = .ref x :: rest ∧ vs.length = np ∧ Same F H ∧ F x = none ∧ H x = some (.ins C dx []) ∧ G.mg cl = some (.ref C) ∧ RpL G F ds rest ∧ match g ds with
  | .ok (.sh d) => ∀ F' H', ExtX x F H F' H' → Rp G F' d (.ref x) → Q .non H'
  | .ex c fs => ∀ F' H' cls d, ExtX x F H F' H' → ExOk G F' c fs cls d → E cls d H'
  | _ => False
structure MkI (G : Gb) (k : Nat) (cl : Str) (np : Nat) (g : List D → FOut) : Prop where
  ex : ∃ C f fd ps, ps.length = np ∧ G.mg cl = some (.ref C) ∧ Mk G.K C f ∧ Binds G.K fd ps [] ∧ FnOk G.P G.w G.K G.mg G.base (L2.CX G.P G.w) k f fd ps (spMk G cl np g)
  sh : ∀ ds r, g ds = .ok r → ∃ d, r = .sh d
section
variable {G : Gb} {c : Cp} {xa : XA} {fx : List Nat} {W : WX} {B : Bs} {F H F' H' F1 : Hp} {σ : St} {e : List Slot} {X : Cx} {a b d : Expr} {fa fb fc : M RV} {pos : Pos} {es : List Expr} {fs : List (M RV)} {D0 : Ends}
theorem de_call {x : Str} {k np : Nat} {g : List D → FOut} {p : Pos} (Fn : FnI G k x np g) (hk : k ≤ c.k) (hc : c.cm = true) (h : chkG c x = true) (ha : DA G c (a :: es) fs) (hn : fs.length = np) (hs : (a :: es).all noStar = true) :
    DE G c (.Call (.Name x p) (a :: es) [] pos) (callU g fs) := fun X xa gd W tk => by
  obtain ⟨f, fd, ps, el, hm, hkp, hb, F0⟩ := Fn.ex
  obtain ⟨h1, h2, h3⟩ := chkG_ok h gd
  rw [List.all_cons, Bool.and_eq_true] at hs
  have F1 : FnOk X.prog X.w X.K X.mg X.base (L2.CX X.prog X.w) k f fd ps (spOf G np g) := by rw [gd.prog, gd.w, gd.K, gd.mg, gd.base]; exact F0
  refine PE.weak (pe_callS F1 ((gd.room hc).mono hk) h1 (by rw [gd.mg]; exact hm) (by rw [gd.K]; exact hkp) (by rw [gd.K]; exact hb) (fun σ => passAt tk σ) (ha X xa gd W tk) h2 (noStar_ok hs.1) (noStar_any hs.2)) fun σ H Q ⟨B, F, e, o, pp⟩ => ?_
  refine (p_bal o pp).imp fun _ _ H1 _ _ _ q xs rv => ?_
  obtain ⟨F1, e1, rs, s1, o1, k1, l1, p1⟩ := q xs rv
  obtain ⟨F2, e2, ds, s2, o2, k2, p2⟩ := p_frzL o1 k1 p1
  refine ⟨F2, ds, o2.same, k2, by rw [k1.length, l1, hn], ?_⟩
  cases hg : g ds with
  | ok r => rw [hg] at p2; exact fun F' H' v x n => p2 F' H' x.sF (o2.ext x) v (n.rv o2)
  | ex c' fs' => rw [hg] at p2; exact fun F' H' cls d x n => p2 F' H' cls d x.sF (o2.ext x) n
  | st => rw [hg] at p2; exact p2.elim
theorem short_of {N ps : List Str} {sc : Scope} (S : FnScope N ps sc) : ps.length ≤ N.length := by
  have e := congrArg List.length S.pre
  rw [List.length_take] at e
  exact Nat.le_trans (Nat.le_of_eq e.symm) (Nat.min_le_right _ _)
/-- the callee of C(..) runs -/
theorem run_makeS {CX : CXT} {k : Nat} {f C : Addr} {fd : FuncData} {ps : List Str} {sp : Sp} {E : XK} {pins : List (Addr × Obj)} {σ : St} {H : Hp} {s : Shared} {Q : VK} {us : List Value} {vs : List V} (M : Mk X.K C f) (F : FnOk X.prog X.w X.K X.mg X.base CX k f fd ps sp) (hr : Room (k + 1) X.A) (hb : Binds X.K fd ps [])
    (hx : PassesAt CX X σ E) (I : Inv X pins σ H s) (r : Vals vs us)
    (h : ∀ x dx, H x = none → H dx = none → dx ≠ x → sp (.ref x :: vs) (upd (upd H dx (.own x)) x (.ins C dx [])) (fun v H2 => v = .non ∧ Q (.ref x) H2) E) : wpAny (model X.prog X.w) X.A (call (.ref C) us) (EP X pins σ Q) X.xe s := by
  have low : H s.heap.objs.size = none := I.hok.fresh (Nat.le_refl _)
  have high : H (s.heap.objs.size + 1) = none := I.hok.fresh (Nat.le_succ _)
  have wish := h _ _ high low (Nat.ne_of_lt (Nat.lt_succ_self _))
  have J := I.made (C := C)
  have args : Vals (V.ref (s.heap.objs.size + 1) :: vs) (Value.ref (s.heap.objs.size + 1) :: us) := .cons rfl r
  have n : (Value.ref (s.heap.objs.size + 1) :: us).length = ps.length := args.length.symm.trans (F.len _ _ _ _ wish)
  have binds := hb _ (Value.ref (s.heap.objs.size + 1) :: us) J.kIn (by rw [List.append_nil]; exact n)
  rw [List.append_nil] at binds
  have body := F.run _ X.stack _ _ ⟨Value.ref (s.heap.objs.size + 1) :: us, []⟩ _ _ _ E (hr.make C us []) (J.env0.make C us []) binds args wish
  refine wpAny_call (make_map I.kIn M.makes M.init (beq_iff_eq.mp M.fn) (codeAny_mono body ?_))
  rintro (e | z) s2 q
  · exact hx pins _ _ e s2 J q
  · rcases z with _ | _ | _ | u
    · exact q.elim
    · exact q.elim
    · exact q.elim
    · obtain ⟨v, H2, J2, rv, ev, q2⟩ := J.after q
      subst ev
      exact ⟨rv, V.ref _, H2, J2, rfl, q2⟩
theorem de_make {cl : Str} {k np : Nat} {g : List D → FOut} {p : Pos} (Mi : MkI G k cl np g) (hk : k + 1 ≤ c.k) (hc : c.cm = true) (h : chkG c cl = true) (ha : DA G c (a :: es) fs) (hn : fs.length + 1 = np) (hs : (a :: es).all noStar = true) :
    DE G c (.Call (.Name cl p) (a :: es) [] pos) (callU g fs) := fun X xa gd W tk => by
  obtain ⟨C, f, fd, ps, el, hm, M0, hb, F0⟩ := Mi.ex
  obtain ⟨h1, h2, h3⟩ := chkG_ok h gd
  rw [List.all_cons, Bool.and_eq_true] at hs
  have F1 : FnOk X.prog X.w X.K X.mg X.base (L2.CX X.prog X.w) k f fd ps (spMk G cl np g) := by rw [gd.prog, gd.w, gd.K, gd.mg, gd.base]; exact F0
  have M1 : Mk X.K C f := by rw [gd.K]; exact M0
  refine ⟨fun pins s σ H Q I q => ?_⟩
  refine wpAny_Call_Name_kw (ld_glob I h1 (by rw [gd.mg]; exact hm) ?_ h2)
  obtain ⟨B, F, e, o, pp⟩ := q
  have q2 : rdA G xa c.fx W (argsM fs) σ H fun vs H1 => ∀ x dx, H1 x = none → H1 dx = none → dx ≠ x → spMk G cl np g (.ref x :: vs) (upd (upd H1 dx (.own x)) x (.ins C dx [])) (fun v H2 => v = .non ∧ Q (.ref x) H2) (WE W σ) := by
    refine (p_bal o pp).imp fun _ _ H1 _ _ _ q xs rv => ?_
    obtain ⟨F1, e1, rs, s1, o1, k1, l1, p1⟩ := q xs rv
    obtain ⟨F2, e2, ds, s2, o2, k2, p2⟩ := p_frzL o1 k1 p1
    intro x dx nx ndx ne
    have fx0 : F2 x = none := o2.same.free nx
    have kp : ∀ b u, H1 b = some u → (upd (upd H1 dx (.own x)) x (.ins C dx [])) b = some u := fun b u z => by
      rw [upd_ne (ne_of_none z nx), upd_ne (ne_of_none z ndx)]; exact z
    have toE : ∀ {F' H' : Hp}, ExtX x F2 (upd (upd H1 dx (.own x)) x (.ins C dx [])) F' H' → Ext F2 H1 F' H' := fun {F' H'} z =>
      ⟨z.sF, fun b u q => z.kp b u (kp b u q) (ne_of_none q nx), z.s, fun b z1 z2 => by
        obtain ⟨u, hu⟩ : ∃ u, H1 b = some u := by
          cases q : H1 b with
          | none => exact absurd q z2
          | some u => exact ⟨u, rfl⟩
        exact z.nw b z1 (ne_none (kp b u hu)) (ne_of_none hu nx)⟩
    refine ⟨F2, ds, x, C, dx, xs, rfl, by rw [List.length_cons, k1.length, l1, hn], fun b u z => kp b u (o2.same b u z), fx0, upd_same, hm, k2, ?_⟩
    cases hg : g ds with
    | ok r =>
      rw [hg] at p2
      cases r with
      | sh d => exact fun F' H' z r => ⟨rfl, p2 F' H' z.sF (o2.ext (toE z)) _ r⟩
      | fr xs => obtain ⟨d, z⟩ := Mi.sh _ _ hg; cases z
      | bo i => obtain ⟨d, z⟩ := Mi.sh _ _ hg; cases z
    | ex c' fs' => rw [hg] at p2; exact fun F' H' cls d z n => p2 F' H' cls d z.sF (o2.ext (toE z)) n
    | st => rw [hg] at p2; exact p2.elim
  refine PySem.W.callWith_K (h₀ := X.base) I.ok.mod.kin M1.kp (thn ((ha X xa gd W tk).run pos pins s σ H _ I q2) fun us s1 ⟨vs, H1, I1, r, q⟩ => ⟨I1.kIn, ?_⟩) (noStar_ok hs.1) (noStar_any hs.2)
  exact run_makeS M1 F1 ((gd.room hc).mono hk) (by rw [gd.K]; exact hb) (passAt tk σ) I1 r q

theorem rep_un {n : Nat} {i : Nat} {s : Slot} (h : (List.replicate n Slot.un)[i]? = some s) : s = .un := by
  rw [List.getElem?_replicate] at h
  split at h <;> cases h
  rfl
theorem start_len {N : List Str} {vs : List V} (h : vs.length ≤ N.length) : (start N vs).length = N.length := by
  unfold L2.start
  rw [List.length_append, List.length_map, List.length_replicate]
  omega
theorem start_at {N : List Str} {vs : List V} {i : Nat} {x : V} (h : vs[i]? = some x) : (start N vs)[i]? = some (some x) := by
  unfold L2.start
  have hi : i < vs.length := (List.getElem?_eq_some_iff.mp h).1
  rw [List.getElem?_append_left (by simpa using hi), List.getElem?_map, h] <;> rfl
theorem ok_start {N : List Str} {ds : List D} {vs : List V} (s : Same F H) (r : RpL G F ds vs) (hl : vs.length ≤ N.length) : Ok G none [] ⟨F, H, [], start N vs, H⟩ F H (start N vs) (ds.map .sh ++ List.replicate (N.length - vs.length) .un) where
  same := s
  sF := Same.refl _
  kH := fun _ _ q _ => q
  dom := fun _ q => q
  domE := fun _ q => q
  nF := fun _ q _ _ => q
  len := by
    rw [start_len hl, List.length_append, List.length_map, List.length_replicate, r.length]
    omega
  sl := fun i t o' h1 h2 => by
    by_cases hi : i < ds.length
    · rw [List.getElem?_append_left (by simpa using hi), List.getElem?_map] at h1
      rw [List.getElem?_eq_getElem hi] at h1
      cases h1
      obtain ⟨v, hv, rv⟩ := r.get (List.getElem?_eq_getElem hi)
      rw [start_at hv] at h2
      cases h2
      exact ⟨v, rfl, rv⟩
    · rw [List.getElem?_append_right (by simpa using hi)] at h1
      cases rep_un h1
      trivial
  dj := fun i j a _ h1 _ => by
    obtain ⟨_, t, q2, q3⟩ := h1
    by_cases hi : i < ds.length
    · rw [List.getElem?_append_left (by simpa using hi), List.getElem?_map, List.getElem?_eq_getElem hi] at q2
      cases q2
      cases q3
    · rw [List.getElem?_append_right (by simpa using hi)] at q2
      cases rep_un q2
      cases q3
  fix := fun _ _ => rfl
theorem ext_of {F0 H0 : Hp} {σ0 : St} (k : Ok G xa fx ⟨F0, H0, [], σ0, H0⟩ F' H' σ e) : Ext F0 H0 F' H' :=
  ⟨k.sF, fun b u q => k.kH b u q (by simp), k.same, fun b h1 h2 => k.nF b h1 h2 (by simp)⟩
theorem good_cx {N : List Str} {qual : Str} {sc : Scope} {f : Addr} {cdv : Value} {A : Around} {outer : List Env} {s : Shared} {H : Hp} {E : XK} {k : Nat} {fx : List Nat} (hr : Room k (A.deeper (envOfC qual sc s.heap.objs.size f cdv))) :
    Good G ⟨N, sc, k, true, true, fx⟩ none (cxOf (L2.CX G.P G.w) G.P G.w G.K G.mg G.base N qual sc f cdv A outer s H E) where
  prog := rfl
  w := rfl
  K := rfl
  mg := rfl
  base := rfl
  hN := rfl
  sc := rfl
  cm := rfl
  room := fun _ => hr
  own := passes_of (K := fun e s'' => L2.CX G.P G.w outer H s E e s'') rfl
  fn := fun _ _ => rfl
  stk := fun _ => ⟨rfl, rfl⟩
  xn := fun _ => rfl
  hx := fun _ _ _ z => by cases z
/-- a def by its body -/
theorem fn_def {x qual : Str} {params : Arguments} {bd : List Stmt} {sc : Scope} {f : Addr} {fd : FuncData} {N ps : List Str} {k : Nat} {body : M Fl} (Fd : FunD G.K x qual params bd sc [] [] f fd) (S : FnScope N ps sc) (h : DSs G ⟨N, sc, k, true, true, []⟩ bd body) :
    FnOk G.P G.w G.K G.mg G.base (L2.CX G.P G.w) (k + 1) f fd ps (spOf G ps.length (defF ps.length N.length body)) := by
  have hpl := short_of S
  refine Fd.ok S (fun vs H Q E ⟨F, ds, _, _, l, _⟩ => l) fun cdv A outer s H vs Q E hr hsp => ?_
  obtain ⟨F, ds, sm, r, l, hg⟩ := hsp
  refine ⟨rdS G none [] (fun cls d _ H => E cls d H) body, h _ none (good_cx hr) _ (takes_of rfl rfl rfl rfl), ?_⟩
  refine ⟨_, F, _, ok_start sm r (by omega), ?_⟩
  unfold defF at hg
  rw [← l] at hg
  cases q : body (ds.map .sh ++ List.replicate (N.length - vs.length) .un) with
  | ok a e =>
    rw [q] at hg
    cases a with
    | nx => exact fun F' H' σ' s' o' => hg F' H' .non (ext_of o') .non
    | bk => exact hg.elim
    | ct => exact hg.elim
    | rt r =>
      cases r with
      | sh d => exact fun F' H' σ' v s' o' rv => hg F' H' v (ext_of o') rv
      | fr xs => exact fun F' H' σ' v s' o' ⟨a, vs, h1, h2, h3, h4, h5, h6, h7⟩ => hg F' H' v (ext_of o') ⟨a, vs, h1, h6, h2, h3, h4⟩
      | bo i => exact hg.elim
  | ex c fs e => rw [q] at hg; exact fun F' H' σ' cls d s' o' x => hg F' H' cls d (ext_of o') x
  | st => rw [q] at hg; exact hg.elim
theorem mkF_sh {cl : Str} {np n : Nat} {body : M Fl} (ds : List D) (r : RV) (h : mkF cl np n body ds = .ok r) : ∃ d, r = .sh d := by
  unfold mkF at h
  split at h
  · split at h
    · cases h; exact ⟨_, rfl⟩
    · cases h; exact ⟨_, rfl⟩
    · cases h
  · cases h
  · cases h
theorem ok_startX {N : List Str} {ds : List D} {vs : List V} {x C dx : Addr} {cl : Str} (s : Same F H) (hF : F x = none) (hH : H x = some (.ins C dx [])) (hm : G.mg cl = some (.ref C)) (r : RpL G F ds vs) (hl : vs.length + 1 ≤ N.length) :
    Ok G none [0] ⟨F, H, [x], start N (.ref x :: vs), H⟩ F H (start N (.ref x :: vs)) (.ob cl [] :: ds.map .sh ++ List.replicate (N.length - (vs.length + 1)) .un) where
  same := s
  sF := Same.refl _
  kH := fun _ _ q _ => q
  dom := fun _ q => q
  domE := fun _ q => q
  nF := fun _ q _ _ => q
  len := by
    rw [start_len (by rw [List.length_cons]; exact hl), List.length_append, List.length_cons, List.length_map, List.length_replicate, r.length]
    omega
  sl := fun i t o' h1 h2 => by
    cases i with
    | zero =>
      rw [List.cons_append, List.getElem?_cons_zero] at h1
      cases h1
      rw [start_at (x := .ref x) (by simp)] at h2
      cases h2
      exact ⟨x, C, dx, [], rfl, hF, hH, hm, .nil, .inr (List.mem_singleton.mpr rfl), .inl (List.mem_singleton.mpr rfl)⟩
    | succ i =>
      rw [List.cons_append, List.getElem?_cons_succ] at h1
      by_cases hi : i < ds.length
      · rw [List.getElem?_append_left (by simpa using hi), List.getElem?_map] at h1
        rw [List.getElem?_eq_getElem hi] at h1
        cases h1
        obtain ⟨v, hv, rv⟩ := r.get (List.getElem?_eq_getElem hi)
        rw [start_at (x := v) (by rw [List.getElem?_cons_succ]; exact hv)] at h2
        cases h2
        exact ⟨v, rfl, rv⟩
      · rw [List.getElem?_append_right (by simpa using hi)] at h1
        cases rep_un h1
        trivial
  dj := fun i j a n h1 h2 => by
    have key : ∀ i, Own (.ob cl [] :: ds.map .sh ++ List.replicate (N.length - (vs.length + 1)) .un) (start N (.ref x :: vs)) i a → i = 0 := fun i ⟨_, t, q2, q3⟩ => by
      cases i with
      | zero => rfl
      | succ i =>
        rw [List.cons_append, List.getElem?_cons_succ] at q2
        by_cases hi : i < ds.length
        · rw [List.getElem?_append_left (by simpa using hi), List.getElem?_map, List.getElem?_eq_getElem hi] at q2
          cases q2
          cases q3
        · rw [List.getElem?_append_right (by simpa using hi)] at q2
          cases rep_un q2
          cases q3
    exact n ((key i h1).trans (key j h2).symm)
  fix := fun _ _ => rfl
theorem extX_of {F0 H0 : Hp} {σ0 : St} {x : Addr} (k : Ok G xa fx ⟨F0, H0, [x], σ0, H0⟩ F' H' σ e) : ExtX x F0 H0 F' H' :=
  ⟨k.sF, k.same, fun b u q n => k.kH b u q (by simpa using n), fun b h1 h2 n => k.nF b h1 h2 (by simpa using n)⟩
/-- an __init__ by its body -/
theorem fn_init {x qual cl : Str} {params : Arguments} {bd : List Stmt} {sc : Scope} {f : Addr} {fd : FuncData} {N ps : List Str} {k : Nat} {body : M Fl} (Fd : FunD G.K x qual params bd sc [] [] f fd) (S : FnScope N ps sc) (h : DSs G ⟨N, sc, k, true, true, [0]⟩ bd body) :
    FnOk G.P G.w G.K G.mg G.base (L2.CX G.P G.w) (k + 1) f fd ps (spMk G cl ps.length (mkF cl ps.length N.length body)) := by
  have hpl := short_of S
  refine Fd.ok S (fun vs H Q E ⟨F, ds, x, C, dx, rest, _, l, _⟩ => l) fun cdv A outer s H vs Q E hr hsp => ?_
  obtain ⟨F, ds, x, C, dx, rest, ev, l, sm, hF, hH, hm, r, hg⟩ := hsp
  subst ev
  rw [List.length_cons] at l
  refine ⟨rdS G none [0] (fun cls d _ H => E cls d H) body, h _ none (good_cx hr) _ (takes_of rfl rfl rfl rfl), ?_⟩
  refine ⟨_, F, _, ok_startX sm hF hH hm r (by omega), ?_⟩
  unfold mkF at hg
  rw [← l] at hg
  cases q : body (.ob cl [] :: ds.map .sh ++ List.replicate (N.length - (rest.length + 1)) .un) with
  | ok a e =>
    rw [q] at hg
    cases a with
    | nx =>
      intro F' H' σ' s' o'
      simp only at hg
      have h0 : σ'[0]? = some (some (.ref x)) := (o'.fix 0 (by simp)).trans (start_at (x := .ref x) (by simp))
      cases he : e[0]? with
      | none => rw [he] at hg; exact hg.elim
      | some s0 =>
        rw [he] at hg
        cases s0 with
        | ob c fs =>
          obtain ⟨F2, d, sm2, o2, rp, q2⟩ := o'.promote h0 he rfl
          have ed : d = .ins c fs := by
            simp only [frzR, he] at q2
            have := Out.ok.inj q2
            exact this.1.symm
          subst ed
          exact hg F2 H' (extX_of o2) rp
        | sh d =>
          obtain ⟨v, ev, rv⟩ := o'.sl 0 _ _ he h0
          cases ev
          exact hg F' H' (extX_of o') rv
        | un => exact hg.elim
        | ow xs => exact hg.elim
        | ex c fs => exact hg.elim
    | bk => exact hg.elim
    | ct => exact hg.elim
    | rt r => exact hg.elim
  | ex c fs e => rw [q] at hg; exact fun F' H' σ' cls d s' o' x => hg F' H' cls d (extX_of o') x
  | st => rw [q] at hg; exact hg.elim
end
end DL
set_option Elab.async false
set_option linter.all false
set_option maxRecDepth 100000
set_option maxHeartbeats 1000000
noncomputable section
namespace DL
open PySem PySem.Spec L2
open PyProof.Rows hiding St
set_option autoImplicit false

/-! ### an own error, raised -/
structure ExI (G : Gb) (x : Str) : Prop where
  ex : ∃ C, G.mg x = some (.ref C) ∧ PySem.W.excIn G.K C [.type "ValueError", .type "Exception", .type "BaseException", .type "object"] "ValueError.__new__" = true ∧ PySem.W.keepIn G.K (.ref C) = true ∧
    PySem.W.subIn G.K (.ref C) (.type "BaseException") = some true ∧ PySem.W.typeIn G.K (.ref C) = some (.type "type")
section
variable {G : Gb} {c : Cp} {xa : XA} {fx : List Nat} {W : WX} {B : Bs} {F H F' H' F1 : Hp} {σ : St} {e : List Slot} {X : Cx} {pos : Pos}
theorem ds_raise {x m : Str} {j : Nat} {p p2 p3 : Pos} (T : ExI G x) (h : chkG c x = true) (hc : c.cm = true) : DS G c (.Raise (some (.Call (.Name x p) [.Constant (.str m) j p2] [] p3)) none pos) (raiS x) := fun X xa gd W tk => by
  obtain ⟨C, gC, xC, kC, bC, tC⟩ := T.ex
  obtain ⟨h1, h2, h3⟩ := chkG_ok h gd
  refine PS.weak (ps_raise (by rw [gd.cm]; exact hc) tk (pmk_own PySem.F.excBase_ValueError (by rw [gd.K]; exact xC) (by rw [gd.mg]; exact gC) (by rw [gd.K]; exact kC) (raises_own (by rw [gd.K]; exact bC) (by rw [gd.K]; exact tC)) h1 h2)) fun D σ H ⟨B, F, e, o, p⟩ => ?_
  exact p F H σ _ _ (Same.refl _) o ⟨C, gC, rfl, rfl⟩
end

/-! ### the law -/
def Has (G : Gb) (d : He.DefD) : Prop := ∃ fd, FunD G.K d.name d.qual d.params d.body d.scope [] [] (He.fAd G.K d.at_) fd
/-- the law's promise -/
theorem law_sp {G : Gb} {g : List D → FOut} (hg : ∀ ns : List Int, ns.length ≤ 63 → g [.scr ns] = .ok (.sh (.bl true))) (H : Hp) (a : Addr) (ns : List Int) (hl : ns.length ≤ 63) (hS : SqL G.K H a (ns.map V.int)) :
    ∀ {Q : VK} {E : XK}, (∀ H', Q (.bl true) H') → spOf G 1 g [.ref a] H Q E := by
  intro Q E hQ
  refine ⟨H, [.scr ns], Same.refl _, .cons (.scr hS) .nil, rfl, ?_⟩
  rw [hg ns hl]
  intro F' H' v _ n
  have n' : Rp G F' (.bl true) v := n
  cases n'
  exact hQ _
/-- a def by its datum -/
theorem fi_def {G : Gb} {d : He.DefD} {N ps : List Str} {k np n : Nat} {body : M Fl} (hd : Has G d) (hm : G.mg d.name = some (.ref (He.fAd G.K d.at_))) (S : FnScope N ps d.scope) (h1 : ps.length = np) (h2 : N.length = n)
    (hb : ∀ (kV doc pm : Value) (an : Option Addr) (cdv ct : Value) (us : List Value), us.length = ps.length → bindArgs (PySem.W.fnOf d.name d.qual d.params d.body d.scope .none kV doc pm an cdv ct) ⟨us, []⟩ = pure (ps.zip us))
    (h : DSs G ⟨N, d.scope, k, true, true, []⟩ d.body body) : FnI G (k + 1) d.name np (defF np n body) := by
  obtain ⟨fd, Fd⟩ := hd
  subst h1 h2
  exact ⟨_, fd, ps, rfl, hm, Fd.kp, Fd.bindsN (fun kV doc pm an cdv ct us hl => hb kV doc pm an cdv ct us hl), fn_def Fd S h⟩
theorem mi_def {G : Gb} {d : He.DefD} {cl : Str} {C : Addr} {N ps : List Str} {k np n : Nat} {body : M Fl} (hd : Has G d) (hm : G.mg cl = some (.ref C)) (hk : Mk G.K C (He.fAd G.K d.at_)) (S : FnScope N ps d.scope) (h1 : ps.length = np) (h2 : N.length = n)
    (hb : ∀ (kV doc pm : Value) (an : Option Addr) (cdv ct : Value) (us : List Value), us.length = ps.length → bindArgs (PySem.W.fnOf d.name d.qual d.params d.body d.scope .none kV doc pm an cdv ct) ⟨us, []⟩ = pure (ps.zip us))
    (h : DSs G ⟨N, d.scope, k, true, true, [0]⟩ d.body body) : MkI G (k + 1) cl np (mkF cl np n body) := by
  obtain ⟨fd, Fd⟩ := hd
  subst h1 h2
  exact ⟨⟨C, _, fd, ps, rfl, hm, hk, Fd.bindsN (fun kV doc pm an cdv ct us hl => hb kV doc pm an cdv ct us hl), fn_init Fd S h⟩, mkF_sh⟩
/-- a law, from its body (what may be let out hangs on the world) -/
theorem law_end {l : PySem.W.OpenLaw} {n k : Nat} {q : Program} {loose : List Str} {XP : (Str → Option Value) → Heap → Prop} {YP : World → Heap → Prop} {d : DefRec} {N : List Str} {body : M Fl} (dL : He.DefD)
    (hn : l.most = some 63) (hdf : d.params.defaults = []) (hr : Room (k + 1) callerA) (S : FnScope N ["script"] dL.scope) (h2 : N.length = n)
    (hb : ∀ (kV doc pm : Value) (an : Option Addr) (cdv ct : Value) (us : List Value), us.length = (["script"] : List Str).length → bindArgs (PySem.W.fnOf dL.name dL.qual dL.params dL.body dL.scope .none kV doc pm an cdv ct) ⟨us, []⟩ = pure ((["script"] : List Str).zip us))
    (hg : ∀ ns : List Int, ns.length ≤ 63 → defF 1 n body [.scr ns] = .ok (.sh (.bl true)))
    (F : ∀ (w : World) (mg : Str → Option Value) (h : Heap), YP w h → h.Ns mainGlobals mg →
      ∃ K : PySem.W.Frag, K.In h ∧ ∀ base : Heap, Has ⟨l.prog, w, K, mg, base⟩ dL ∧ mg d.name = some (.ref (He.fAd K dL.at_)) ∧ DSs ⟨l.prog, w, K, mg, base⟩ ⟨N, dL.scope, k, true, true, []⟩ dL.body body) :
    PySem.W.WalkO q loose XP YP l.row.toRowW d [] (fun f vs => PySem.call f vs) := by
  subst h2
  refine Att.attach_call hn hdf ?_
  intro w s0 s1 mg mb fa o pm cd doc a vs ns G Y ho hd hcd named obj hints few reads
  obtain ⟨K, KX, hB⟩ := F w mg _ Y G.T.g
  have at_ : fa = He.fAd K dL.at_ := by simpa using named.symm.trans (hB s0.heap).2.1
  subst at_
  obtain ⟨fd, Fd⟩ := (hB s0.heap).1
  refine law_call (CX := L2.CX l.prog w) (sp := fun vs H Q E => (∃ a ns, vs = [.ref a] ∧ ns.length ≤ 63 ∧ SqL K H a (ns.map V.int)) ∧ ∀ H', Q (.bl true) H') KX G.T.g G.T.b G.T.builtins G.T.nolimit reads obj hints (Nat.le_trans few (by decide)) hr ?_ (fun s u => Fd.bindsA hb s [u] rfl) (fun H hO hS => ⟨⟨a, ns, rfl, few, hS⟩, fun _ => rfl⟩) ?_
  · intro base _ _
    refine (fn_def (G := ⟨l.prog, w, K, mg, base⟩) (f := He.fAd K dL.at_) (fd := fd) (ps := ["script"]) Fd S (hB base).2.2).imp ?_
    rintro vs H Q E ⟨⟨a, ns, rfl, hl, hS⟩, hQ⟩
    exact law_sp hg H a ns hl hS hQ
  · rintro H e s2 ⟨_, _, _, _, _, _, _, _, _, _, _, _, none_⟩
    exact none_.elim
end DL
set_option Elab.async false
set_option linter.all false
set_option maxRecDepth 100000
set_option maxHeartbeats 1000000
noncomputable section
namespace DL
open PySem PySem.Spec L2
open PyProof.Rows hiding St
set_option autoImplicit false

/-! ### a call that only borrows what a name owns: nothing of it is told back -/
def scal : D → Bool
  | .non => true
  | .bl _ => true
  | .int _ => true
  | .str _ => true
  | _ => false
def callUB (g : List D → FOut) (fs : List (M RV)) : M RV := bnd (argsM fs) fun rs => fun e => match frzL rs e with
  | .ok ds _ => (match g ds with
    | .ok (.sh d) => if scal d = true then .ok (.sh d) e else .st
    | .ex c none => .ex c none e
    | _ => .st)
  | _ => .st
section
variable {G : Gb} {c : Cp} {xa : XA} {fx : List Nat} {W : WX} {B : Bs} {F H F' H' F1 : Hp} {σ : St} {e : List Slot} {X : Cx} {pos : Pos} {a : Expr} {es : List Expr} {fs : List (M RV)}
theorem scal_rp {d : D} {v : V} (h : scal d = true) (r : Rp G F d v) : Rp G F1 d v := by
  cases d with
  | non => cases r; exact .non
  | bl b => cases r; exact .bl _
  | int i => cases r; exact .int _
  | str s => cases r; exact .str _
  | _ => cases h
theorem side_frzL {rs : List RV} {xs : List V} {ds : List D} {e2 : List Slot} (o : Ok G xa fx B F H σ e) (h : HeldL G F σ xs rs) (q : frzL rs e = .ok ds e2) : ∃ F2, Same F F2 ∧ Same F2 H ∧ RpL G F2 ds xs := by
  have p : Post (W := fun _ _ _ _ => True) G xa fx B F σ (fun _ _ _ (ds' : List D) => ds' = ds) (bnd (frzL rs) (fun ds => fun e => .ok ds e) e) := by
    unfold bnd
    rw [q]
    exact fun _ _ _ _ => rfl
  obtain ⟨F2, e3, ds', s2, o2, r2, p2⟩ := p_frzL o h p
  have : ds' = ds := p2 F2 H (Same.refl _) o2
  subst this
  exact ⟨F2, s2, o2.same, r2⟩
theorem de_callUB {x : Str} {k np : Nat} {g : List D → FOut} {p : Pos} (Fn : FnI G k x np g) (hk : k ≤ c.k) (hc : c.cm = true) (h : chkG c x = true) (ha : DA G c (a :: es) fs) (hn : fs.length = np) (hs : (a :: es).all noStar = true) :
    DE G c (.Call (.Name x p) (a :: es) [] pos) (callUB g fs) := fun X xa gd W tk => by
  obtain ⟨f, fd, ps, el, hm, hkp, hb, F0⟩ := Fn.ex
  obtain ⟨h1, h2, h3⟩ := chkG_ok h gd
  rw [List.all_cons, Bool.and_eq_true] at hs
  have F1 : FnOk X.prog X.w X.K X.mg X.base (L2.CX X.prog X.w) k f fd ps (spOf G np g) := by rw [gd.prog, gd.w, gd.K, gd.mg, gd.base]; exact F0
  refine PE.weak (pe_callS F1 ((gd.room hc).mono hk) h1 (by rw [gd.mg]; exact hm) (by rw [gd.K]; exact hkp) (by rw [gd.K]; exact hb) (fun σ => passAt tk σ) (ha X xa gd W tk) h2 (noStar_ok hs.1) (noStar_any hs.2)) fun σ H Q ⟨B, F, e, o, pp⟩ => ?_
  refine (p_bal o pp).imp fun _ _ H1 _ _ _ q xs rv => ?_
  obtain ⟨F1, e1, rs, s1, o1, k1, l1, p1⟩ := q xs rv
  cases hf : frzL rs e1 with
  | ex c' fs' e' => simp only [hf] at p1; exact p1.elim
  | st => simp only [hf] at p1; exact p1.elim
  | ok ds e2 =>
    simp only [hf] at p1
    obtain ⟨F2, s2, sH, r2⟩ := side_frzL o1 k1 hf
    refine ⟨F2, ds, sH, r2, by rw [k1.length, l1, hn], ?_⟩
    cases hg : g ds with
    | st => simp only [hg] at p1; exact p1.elim
    | ok r =>
      simp only [hg] at p1
      cases r with
      | fr xs => exact p1.elim
      | bo i => exact p1.elim
      | sh d =>
        dsimp only at p1
        by_cases hd : scal d = true
        · rw [if_pos hd] at p1
          exact fun F' H' v x n => p1 F1 H' (Same.refl _) (o1.ext ⟨Same.refl _, x.sH, s2.trans (x.sF.trans x.s), fun _ h _ => h⟩) v (scal_rp hd n)
        · rw [if_neg hd] at p1
          exact p1.elim
    | ex c' fs' =>
      simp only [hg] at p1
      cases fs' with
      | some l => exact p1.elim
      | none => exact fun F' H' cls d x n => p1 F1 H' cls d (Same.refl _) (o1.ext ⟨Same.refl _, x.sH, s2.trans (x.sF.trans x.s), fun _ h _ => h⟩) n
end
end DL
set_option Elab.async false
set_option linter.all false
set_option maxRecDepth 100000
set_option maxHeartbeats 1000000
noncomputable section
namespace DL
open PySem PySem.Spec L2
open PyProof.Rows hiding St
set_option autoImplicit false

/-! ### where an equal one stands first -/
def firstIx (x : D) : List D → Option Nat
  | [] => none
  | y :: r => if y = x then some 0 else (firstIx x r).map (· + 1)
def indexD : D → List D → Option RV
  | .lst ys, [x] => if (x.ok && (D.lst ys).ok) = true then (firstIx x ys).map fun j => .sh (.int j) else none
  | _, _ => none
def indexE (fo fb : M RV) : M RV := bh fo fun r1 => fun e => match der e r1 with
  | some (.lst _) => (bnd (argsM [fb]) fun rs => fun e2 => appD ((der e2 r1).bind fun d1 => (derL e2 rs).bind fun ds => indexD d1 ds) e2) e
  | _ => .st
theorem first_py {x : D} (hx : x.pur = true) : ∀ {ys : List D} {j : Nat}, purL ys = true → firstIx x ys = some j → (pyL ys)[j]? = some x.py ∧ ∀ (m : Nat) (z : PyData), m < j → (pyL ys)[m]? = some z → PyData.eqv z x.py = false
  | [], _, _, h => by cases h
  | y :: r, j, hy, h => by
    simp only [purL, Bool.and_eq_true] at hy
    unfold firstIx at h
    by_cases e : y = x
    · rw [if_pos e] at h
      cases h
      subst e
      exact ⟨by simp [pyL], fun m z hm => by omega⟩
    · rw [if_neg e] at h
      cases q : firstIx x r with
      | none => rw [q] at h; cases h
      | some i =>
        rw [q] at h
        cases h
        obtain ⟨h1, h2⟩ := first_py hx hy.2 q
        refine ⟨by simpa [pyL] using h1, fun m z hm hz => ?_⟩
        cases m with
        | zero =>
          simp [pyL] at hz
          subst hz
          rw [D.eqv y x hy.1 hx, beq_dec]
          simp [e]
        | succ m =>
          have hm : m + 1 < i + 1 := hm
          exact h2 m z (by omega) (by simpa [pyL] using hz)
section
variable {G : Gb} {c : Cp} {xa : XA} {W : WX} {B : Bs} {F H : Hp} {σ : St} {e : List Slot} {X : Cx} {pos apos : Pos} {a b : Expr} {fa fb : M RV}
theorem de_index (hsup : noSup a = true) (ha : DE G c a fa) (hb : DA G c [b] [fb]) (hc : c.cm = true) (hn : noStar b = true) (hline : (apos.endLine == pos.line) = true := by rfl) :
    DE G c (.Call (.Attribute a "index" apos) [b] [] pos) (indexE fa fb) := fun X xa gd W tk => by
  refine PE.weak (pe_bm PySem.F.plainAttrs_list PySem.F.slot_list_index PySem.F.type_list_index (mt_indexD (gd.un hc)) (ha X xa gd W tk) (hb X xa gd W tk) (noSup_ok hsup) (by rw [noStar_ok hn]; rfl) hline (noStar_ok hn) (by rfl)) fun σ H Q ⟨B, F, e, o, p⟩ => ?_
  refine (p_bh o p).imp fun _ _ H1 _ _ _ q x rv => ?_
  obtain ⟨F1, e1, r1, s1, o1, h1, p1⟩ := q x rv
  cases hd : der e1 r1 with
  | none => simp only [hd] at p1; exact p1.elim
  | some d =>
    simp only [hd] at p1
    cases d with
    | lst ys =>
      obtain ⟨p0, vs0, ex, hl0, _⟩ := (der_ok o1 h1 hd).lst o1.same
      subst ex
      refine ⟨.inl ⟨rfl, _, SqL.of hl0⟩, ?_⟩
      refine (p_bal o1 p1).imp fun _ _ H2 _ _ _ q2 xs rv2 => ?_
      obtain ⟨F2, e2, rs, s2, o2, k2, l2, p2⟩ := q2 xs rv2
      obtain ⟨res, e3, k3⟩ := p_appD o2 p2
      obtain ⟨d1, g1, g2⟩ := Option.bind_eq_some_iff.mp e3
      obtain ⟨ds, g3, g4⟩ := Option.bind_eq_some_iff.mp g2
      have b1 := der_ok o2 (h1.mono s2) g1
      cases k2 with
      | nil => cases l2
      | cons hy ht =>
        rename_i y r2 vs rs
        cases ht with
        | cons _ _ => cases l2
        | nil =>
          obtain ⟨dx, g5, g6⟩ := Option.bind_eq_some_iff.mp g3
          obtain ⟨dn, g7, g8⟩ := Option.bind_eq_some_iff.mp g6
          cases g7
          cases g8
          have b2 := der_ok o2 hy g5
          cases d1 with
          | lst zs =>
            simp only [indexD] at g4
            split at g4
            · rename_i hok
              rw [Bool.and_eq_true] at hok
              cases hf : firstIx dx zs with
              | none => rw [hf] at g4; cases g4
              | some j =>
                rw [hf] at g4
                cases g4
                have px : dx.pur = true := by have := hok.1; simp only [D.ok, Bool.and_eq_true] at this; exact this.1
                have pz : purL zs = true := by have := hok.2; simp only [D.ok, Bool.and_eq_true] at this; simpa [D.pur] using this.1
                obtain ⟨f1, f2⟩ := first_py px pz hf
                have d1 := deep o2.same b1 hok.2
                have sh1 := D.shaped hok.2
                simp only [D.py] at d1 sh1
                refine ⟨p0, y, dx.py, pyL zs, j, dx.py, rfl, rfl, by rw [gd.K]; exact d1, by rw [gd.K]; exact deep o2.same b2 hok.1, sh1, D.shaped hok.1, f1, ?_, f2, ?_⟩
                · rw [D.eqv_ok hok.1 hok.1]; simp
                · exact nw_sc o2.same (.int _) k3
            · cases g4
          | _ => cases g4
    | _ => exact p1.elim
end
end DL
set_option Elab.async false
set_option linter.all false
set_option maxRecDepth 100000
set_option maxHeartbeats 1000000
noncomputable section
namespace DL
open PySem PySem.Spec L2
open PyProof.Rows hiding St
set_option autoImplicit false

/-! ### errors with fields; what is caught -/
/-- raise Clash(a, b, c) -/
def raiC (fs : List (M RV)) : M Fl := bnd (argsM fs) fun rs => bnd (frzL rs) fun ds => fun e => match ds with
  | [a, b, c] => .ex "Clash" (some [("second", c), ("first", b), ("events", a)]) e
  | _ => .st
/-- is an error of class c one of class t? -/
def isSub (c t : Str) : Bool := decide (c = t) || decide (t = "ValueError") || (decide (t = "ChartError") && (decide (c = "Clash") || decide (c = "BadChart") || decide (c = "TooMany")))
def known (c : Str) : Bool := decide (c = "BadChart") || (decide (c = "TooMany") || decide (c = "Clash"))
def okF : Option Fds → Bool
  | some [] => false
  | _ => true
/-- what stood for a caught error is forgotten -/
def unx : Slot → Slot
  | .ex _ _ => .un
  | s => s
/-- the field of a caught error -/
def xfE (f : Str) (i : Nat) : M RV := fun e => match e[i]? with
  | some (.ex c fs) => if c = "Clash" then (match fs.lookup f with
    | some d => .ok (.sh d) e
    | none => .st) else .st
  | _ => .st
/-- isinstance of a caught error -/
def isxE (t : Str) (i : Nat) : M RV := fun e => match e[i]? with
  | some (.ex c []) => if c = "BadChart" ∨ c = "TooMany" then .ok (.sh (.bl (isSub c t))) e else .st
  | some (.ex c (q :: r)) => if c = "Clash" ∧ (q :: r).lookup ("__class__" : Str) = none then .ok (.sh (.bl (isSub c t))) e else .st
  | _ => .st
/-- try: body except t as (slot i): suite -/
def tryA (t : Str) (i : Nat) (body suite : M Fl) : M Fl := fun e => match body e with
  | .ex c fs e' => if (known c && okF fs) = true then (if isSub c t = true then (match suite (e'.set i (.ex c (fs.getD []))) with
    | .ok .nx e2 => .ok .nx ((e2.set i .un).map unx)
    | _ => .st) else .ex c fs e') else .st
  | o => o
/-- try: body except t1: suite1 except t2: .. -/
def catchM : List (Str × M Fl) → Str → Option Fds → M Fl
  | [], c, fs => fun e => .ex c fs e
  | (t, s) :: r, c, fs => fun e => if known c = true then (if isSub c t = true then (match s e with
    | .ok .nx e2 => .ok .nx (e2.map unx)
    | _ => .st) else catchM r c fs e) else .st
def tryM (body : M Fl) (hs : List (Str × M Fl)) : M Fl := fun e => match body e with
  | .ex c fs e' => catchM hs c fs e'
  | o => o
end DL
set_option Elab.async false
set_option linter.all false
set_option maxRecDepth 100000
set_option maxHeartbeats 1000000
noncomputable section
namespace DL
open PySem PySem.Spec L2
open PyProof.Rows hiding St
set_option autoImplicit false

/-! ### an own error with fields, raised -/
/-- what its __init__ does -/
def spCl (K : PySem.W.Frag) : Sp := fun vs H Q E => ∃ (a C : Addr) (x y z : V), vs = [.ref a, x, y, z] ∧ OexC K C ∧ H a = some (exo a C none) ∧
  PySem.W.findIn K (.ref C) "events" = some none ∧ PySem.W.findIn K (.ref C) "first" = some none ∧ PySem.W.findIn K (.ref C) "second" = some none ∧
  ∀ dx, H dx = none → dx ≠ a → Q .non (upd (upd (upd (upd H dx (exd dx [("events", x)])) a (exo a C (some dx))) dx (exd dx [("first", y), ("events", x)])) dx (exd dx [("second", z), ("first", y), ("events", x)]))
def NC : List Str := ["self", "events", "first", "second"]
section
variable {G : Gb} {c : Cp} {xa : XA} {fx : List Nat} {W : WX} {B : Bs} {F H F' H' F1 : Hp} {σ : St} {e : List Slot} {X : Cx} {pos : Pos} {es : List Expr} {fs : List (M RV)} {a : Expr}
theorem fn_clash {x qual : Str} {params : Arguments} {sc : Scope} {f : Addr} {fd : FuncData} {p1 p2 p3 p4 p5 p6 p7 p8 p9 p10 p11 p12 : Pos}
    (Fd : FunD G.K x qual params [.Assign [.Attribute (.Name "self" p1) "events" p2] (.Name "events" p3) p4, .Assign [.Attribute (.Name "self" p5) "first" p6] (.Name "first" p7) p8, .Assign [.Attribute (.Name "self" p9) "second" p10] (.Name "second" p11) p12] sc [] [] f fd)
    (S : FnScope NC NC sc) (hv : NC.all (visB sc) = true) : FnOk G.P G.w G.K G.mg G.base (L2.CX G.P G.w) 1 f fd NC (spCl G.K) := by
  have v0 := List.all_eq_true.mp hv "self" (by simp [NC])
  have v1 := List.all_eq_true.mp hv "events" (by simp [NC])
  have v2 := List.all_eq_true.mp hv "first" (by simp [NC])
  have v3 := List.all_eq_true.mp hv "second" (by simp [NC])
  refine Fd.ok S (fun vs H Q E ⟨a, C, x, y, z, h, _⟩ => by rw [h]; rfl) fun cdv A outer s H vs Q E hr hsp => ?_
  obtain ⟨a, C, x, y, z, rfl, T, ha, n1, n2, n3, h⟩ := hsp
  refine ⟨_, pss_cons (ps_ost (pe_var (i := 0) rfl (visB_ok v0).1) (pe_var (i := 1) rfl (visB_ok v1).1)) (pss_cons (ps_ost (pe_var (i := 0) rfl (visB_ok v0).1) (pe_var (i := 2) rfl (visB_ok v2).1)) (pss_one (ps_ost (pe_var (i := 0) rfl (visB_ok v0).1) (pe_var (i := 3) rfl (visB_ok v3).1)))), ?_⟩
  refine ⟨x, rfl, .ref a, rfl, a, C, rfl, T, n1, .inl ⟨ha, fun dx hn ne => ?_⟩⟩
  refine ⟨y, rfl, .ref a, rfl, a, C, rfl, T, n2, .inr ⟨dx, _, upd_same, by rw [upd_ne ne]; exact upd_same, by simp, ?_⟩⟩
  refine ⟨z, rfl, .ref a, rfl, a, C, rfl, T, n3, .inr ⟨dx, _, by rw [upd_ne (Ne.symm ne)]; exact upd_same, upd_same, by simp, ?_⟩⟩
  exact h dx hn ne
/-- what must be known of the class -/
structure ClI (G : Gb) : Prop where
  ex : ∃ C f fd, G.mg "Clash" = some (.ref C) ∧ OexC G.K C ∧ PySem.W.findIn G.K (.ref C) "__init__" = some (some (.ref f)) ∧ PySem.W.typeIn G.K (.ref f) = some (.type "function") ∧
    PySem.W.findIn G.K (.ref C) "events" = some none ∧ PySem.W.findIn G.K (.ref C) "first" = some none ∧ PySem.W.findIn G.K (.ref C) "second" = some none ∧ Binds G.K fd NC [] ∧
    FnOk G.P G.w G.K G.mg G.base (L2.CX G.P G.w) 1 f fd NC (spCl G.K)
theorem ps_bal {k : List RV → M Fl} {D0 : Ends} (o : Ok G xa fx B F H σ e) (p : PostS G xa fx W B D0 F (bnd (argsM fs) k e)) :
    rdA G xa fx W (argsM fs) σ H fun vs H1 => ∃ F1 e1 rs, Same F F1 ∧ Ok G xa fx B F1 H1 σ e1 ∧ HeldL G F1 σ vs rs ∧ rs.length = fs.length ∧ PostS G xa fx W B D0 F1 (k rs e1) := by
  refine ⟨B, F, e, o, ?_⟩
  unfold bnd at p
  cases q : argsM fs e with
  | ok a e' =>
    rw [q] at p
    exact fun F' H' s k xs rv => ⟨F', e', a, s, k, rv, argsM_len q, p.mono s⟩
  | ex c fs e' => rw [q] at p; exact fun F' H' cls d s k x => p F' H' σ cls d s k x
  | st => rw [q] at p; exact p
theorem ps_frzL {D0 : Ends} : ∀ {rs : List RV} {k : List D → M Fl} {xs : List V} {F : Hp} {e : List Slot}, Ok G xa fx B F H σ e → HeldL G F σ xs rs → PostS G xa fx W B D0 F (bnd (frzL rs) k e) →
    ∃ F1 e1 ds, Same F F1 ∧ Ok G xa fx B F1 H σ e1 ∧ RpL G F1 ds xs ∧ PostS G xa fx W B D0 F1 (k ds e1)
  | _, k, _, F, e, o, .nil, p => ⟨F, e, [], Same.refl _, o, .nil, p⟩
  | r :: rs, k, x :: xs, F, e, o, .cons h t, p => by
    rw [show frzL (r :: rs) = bnd (frzR r) fun d => bnd (frzL rs) fun ds => fun e => .ok (d :: ds) e from rfl, bnd_bnd] at p
    obtain ⟨F1, e1, d, s1, o1, r1, p1⟩ := ps_frz o h p
    rw [bnd_bnd] at p1
    obtain ⟨F2, e2, ds, s2, o2, r2, p2⟩ := ps_frzL o1 (t.mono s1) p1
    exact ⟨F2, e2, d :: ds, s1.trans s2, o2, .cons (r1.mono s2) r2, p2⟩
theorem ds_raiseC {p p3 : Pos} (T : ClI G) (h : chkG c "Clash" = true) (hc : c.cm = true) (hk : 2 ≤ c.k) (ha : DA G c (a :: es) fs) (hs : (a :: es).all noStar = true) :
    DS G c (.Raise (some (.Call (.Name "Clash" p) (a :: es) [] p3)) none pos) (raiC fs) := fun X xa gd W tk => by
  obtain ⟨C, f, fd, gC, oC, iC, tI, n1, n2, n3, bd, Fn⟩ := T.ex
  obtain ⟨h1, h2, h3⟩ := chkG_ok h gd
  rw [List.all_cons, Bool.and_eq_true] at hs
  have F1 : FnOk X.prog X.w X.K X.mg X.base (L2.CX X.prog X.w) 1 f fd NC (spCl X.K) := by rw [gd.prog, gd.w, gd.K, gd.mg, gd.base]; exact Fn
  have pm := pmk_oex (X := X) (pos := p3) (p := p) (by rw [gd.K]; exact oC) (by rw [gd.K]; exact iC) (by rw [gd.K]; exact tI) F1 ((gd.room hc).mono hk) (by rw [gd.K]; exact bd) .nil (fun _ _ _ _ _ _ _ ⟨_, _, _, _, _, _, _, _, _, _, _, _, z⟩ => z.elim) h1 (by rw [gd.mg]; exact gC) (ha X xa gd W tk) h2 (noStar_ok hs.1) (noStar_any hs.2)
  refine PS.weak (ps_raise (by rw [gd.cm]; exact hc) tk pm) fun D σ H ⟨B, F, e, o, pp⟩ => ?_
  refine (ps_bal o pp).imp fun _ _ H1 _ _ _ q xs rv => ?_
  obtain ⟨F1, e1, rs, s1, o1, k1, l1, p1⟩ := q xs rv
  obtain ⟨F2, e2, ds, s2, o2, k2, p2⟩ := ps_frzL o1 k1 p1
  match ds, xs, k2, p2 with
  | [d1, d2, d3], [x, y, z], .cons r1 (.cons r2 (.cons r3 .nil)), p2 =>
    refine ⟨by simp, fun a na => ?_⟩
    refine ⟨a, C, x, y, z, rfl, by rw [gd.K]; exact oC, upd_same, by rw [gd.K]; exact n1, by rw [gd.K]; exact n2, by rw [gd.K]; exact n3, fun dx hn ne => ?_⟩
    rw [upd_ne ne] at hn
    refine ⟨rfl, dx, _, ?_, upd_same, hn, ?_⟩
    · rw [upd_ne (Ne.symm ne), upd_ne (Ne.symm ne)]
      exact upd_same
    · have eH : upd (del (upd (upd (upd (upd (upd H1 a (exo a C none)) dx (exd dx [("events", x)])) a (exo a C (some dx))) dx (exd dx [("first", y), ("events", x)])) dx (exd dx [("second", z), ("first", y), ("events", x)])) a) dx (.xd [("second", z), ("first", y), ("events", x)]) = upd H1 dx (.xd [("second", z), ("first", y), ("events", x)]) := by
        funext b
        by_cases hb : b = dx
        · rw [hb, upd_same, upd_same]
        · rw [upd_ne hb, upd_ne hb]
          by_cases hb2 : b = a
          · rw [hb2, del_same, na]
          · rw [del_ne hb2, upd_ne hb, upd_ne hb, upd_ne hb2, upd_ne hb, upd_ne hb2]
      rw [eH]
      have ex : Ext F2 H1 (upd F2 dx (.xd [("second", z), ("first", y), ("events", x)])) (upd H1 dx (.xd [("second", z), ("first", y), ("events", x)])) := Ext.newF o2.same hn
      refine p2 _ _ σ _ _ ex.sF (o2.ext ex) ⟨C, gC, rfl, dx, _, rfl, upd_same, ?_⟩
      exact .cons (r3.mono ex.sF) (.cons (r2.mono ex.sF) (.cons (r1.mono ex.sF) .nil))
  | [], _, _, p2 => exact p2.elim
  | [_], _, _, p2 => exact p2.elim
  | [_, _], _, _, p2 => exact p2.elim
  | _ :: _ :: _ :: _ :: _, _, _, p2 => exact p2.elim

/-! ### caught -/
structure Nm (G : Gb) (t : Str) : Prop where
  ex : ∃ u, G.mg t = some u ∧ ∀ c C, known c = true → G.mg c = some (.ref C) → PySem.W.exmOne G.K (.ref C) u = some (isSub c t)
theorem good_tr (gd : Good G c none X) (hc : c.cm = true) {pn : List (Addr × Obj)} {xe : Value → Shared → Prop} (own : PassesOwn (model X.prog X.w) X.A X.env xe) : Good G c none (X.tr pn xe) where
  prog := gd.prog
  w := gd.w
  K := gd.K
  mg := gd.mg
  base := gd.base
  hN := gd.hN
  sc := gd.sc
  cm := gd.cm
  room := gd.room
  own := own
  fn := gd.fn
  stk := gd.stk
  xn := fun _ => rfl
  hx := fun _ _ _ z => by cases z
theorem good_suite (gd : Good G c none X) {a : Addr} {oe : Obj} {cls : Value} {d : Option Addr} {pn : List (Addr × Obj)} (hz : Zc cls d oe) (hf : ∃ vs, oe.data = .fields vs) : Good G { c with cm := false } (some (a, cls, d)) (X.suite a ((a, oe) :: pn)) where
  prog := gd.prog
  w := gd.w
  K := gd.K
  mg := gd.mg
  base := gd.base
  hN := gd.hN
  sc := gd.sc
  cm := rfl
  room := fun z => by cases z
  own := PassesOwn.never
  fn := gd.fn
  stk := gd.stk
  xn := fun z => by cases z
  hx := fun a' cls' d' z => by
    cases z
    exact ⟨X, oe, pn, rfl, hz, hf⟩
theorem Ok.toX {a : Addr} {cls : Value} {d : Option Addr} (o : Ok G none fx B F H σ e) (hx : ∀ i t o, e[i]? = some t → σ[i]? = some o → SlotOk G none fx B F H i o t → SlotOk G (some (a, cls, d)) fx B F H i o t) : Ok G (some (a, cls, d)) fx B F H σ e :=
  ⟨o.same, o.sF, o.kH, o.dom, o.domE, o.nF, o.len, fun i s v h1 h2 => hx i s v h1 h2 (o.sl i s v h1 h2), o.dj, o.fix⟩
theorem slot_none {i : Nat} {v : Option V} {t : Slot} {xa' : XA} (h : SlotOk G none fx B F H i v t) : SlotOk G xa' fx B F H i v t := by
  cases t with
  | ex c fs => obtain ⟨_, _, _, z, _⟩ := h; cases z
  | un => exact h
  | sh d => exact h
  | ow xs => exact h
  | ob c fs => exact h
theorem slot_unx {i : Nat} {v : Option V} {t : Slot} {xa' : XA} (h : SlotOk G xa fx B F H i v t) : SlotOk G xa' fx B F H i v (unx t) := by
  cases t with
  | ex c fs => trivial
  | un => exact h
  | sh d => exact h
  | ow xs => exact h
  | ob c fs => exact h
theorem own_unx {i : Nat} {a : Addr} (h : Own (e.map unx) σ i a) : Own e σ i a := by
  obtain ⟨h1, s, h2, h3⟩ := h
  rw [List.getElem?_map] at h2
  cases q : e[i]? with
  | none => rw [q] at h2; cases h2
  | some t =>
    rw [q] at h2
    cases h2
    refine ⟨h1, t, q, ?_⟩
    cases t <;> first | exact h3 | cases h3
theorem Ok.unx {xa' : XA} (o : Ok G xa fx B F H σ e) : Ok G xa' fx B F H σ (e.map DL.unx) :=
  ⟨o.same, o.sF, o.kH, o.dom, o.domE, o.nF, by rw [List.length_map]; exact o.len, fun i s v h1 h2 => by
    rw [List.getElem?_map] at h1
    cases q : e[i]? with
    | none => rw [q] at h1; cases h1
    | some t =>
      rw [q] at h1
      cases h1
      exact slot_unx (o.sl i t v q h2), fun i j a n h1 h2 => o.dj i j a n (own_unx h1) (own_unx h2), o.fix⟩
/-- the caught error is given a name -/
theorem Ok.catch {i : Nat} {a : Addr} {C : Addr} {d : Option Addr} {cn : Str} {fs : Fds} (o : Ok G none fx B F H σ e) (hi : i ∉ fx) (m : G.mg cn = some (.ref C)) (hv : ExV G F fs d) : Ok G (some (a, .ref C, d)) fx B F H (σ.set i (some (.ref a))) (e.set i (.ex cn fs)) := by
  have o1 : Ok G (some (a, .ref C, d)) fx B F H σ e := o.toX fun _ _ _ _ _ h => slot_none h
  exact o1.put hi ⟨a, C, d, rfl, rfl, m, hv⟩ fun z => nomatch z
/-- .. and the name goes -/
theorem Ok.gone {i : Nat} {v : Option V} (o : Ok G xa fx B F H σ e) (hi : i ∉ fx) : Ok G xa fx B F H (σ.set i v) (e.set i .un) where
  same := o.same
  sF := o.sF
  kH := o.kH
  dom := o.dom
  domE := o.domE
  nF := o.nF
  len := by rw [List.length_set, List.length_set]; exact o.len
  sl := fun j t w h1 h2 => by
    by_cases hj : i = j
    · subst hj
      have hl : i < e.length := by have := (List.getElem?_eq_some_iff.mp h1).1; rwa [List.length_set] at this
      rw [List.getElem?_set_self hl] at h1
      cases h1
      trivial
    · rw [List.getElem?_set_ne hj] at h1 h2
      exact o.sl j t w h1 h2
  dj := fun j k b n h1 h2 => by
    have key : ∀ m, Own (e.set i .un) (σ.set i v) m b → Own e σ m b := fun m ⟨q1, t, q2, q3⟩ => by
      by_cases hm : i = m
      · subst hm
        have hl : i < e.length := by have := (List.getElem?_eq_some_iff.mp q2).1; rwa [List.length_set] at this
        rw [List.getElem?_set_self hl] at q2
        cases q2
        cases q3
      · rw [List.getElem?_set_ne hm] at q1 q2
        exact ⟨q1, t, q2, q3⟩
    exact o.dj j k b n (key j h1) (key k h2)
  fix := fun j hj => by
    have hne : i ≠ j := fun z => hi (z ▸ hj)
    rw [List.getElem?_set_ne hne]
    exact o.fix j hj
theorem exv_of {cn : Str} {fs : Option Fds} {cls : Value} {d : Option Addr} (x : ExOk G F cn fs cls d) : ∃ C, cls = .ref C ∧ G.mg cn = some (.ref C) ∧ (okF fs = true → ExV G F (fs.getD []) d) := by
  obtain ⟨C, m, hc, h⟩ := x
  refine ⟨C, hc, m, fun ok => ?_⟩
  cases fs with
  | none => exact .inl ⟨rfl, h⟩
  | some l =>
    obtain ⟨dd, vfs, h1, h2, h3⟩ := h
    exact .inr ⟨dd, vfs, h1, h2, h3, fun z => by subst z; cases ok⟩
variable {body suite : List Stmt} {b0 : Stmt} {fb fs' : M Fl}
theorem ds_tryA {t n : Str} {i : Nat} {np pos' : Pos} (T : Nm G t) (h : chkG c t = true) (hl : chkL c i n = true) (hlo : decide (c.sc.names.lookup n = some .local) = true) (hc : c.cm = true) (hb : DSs G c body fb) (hs : DSs G { c with cm := false } (b0 :: suite) fs') :
    DS G c (.Try body [.ExceptHandler (some (.Name t np)) (some n) (b0 :: suite) pos'] [] [] pos) (tryA t i fb fs') := fun X xa gd W tk => by
  obtain ⟨u, gt, hx⟩ := T.ex
  obtain ⟨h1, h2, h3⟩ := chkG_ok h gd
  obtain ⟨l1, l2, l3, l4, l5⟩ := chkL_ok hl
  obtain ⟨s1, s2⟩ := gd.stk l3
  have exa : xa = none := gd.xn hc
  subst exa
  refine PS.weak (ps_try_as (i := i) (c := u) (Wout := W) (tb := fun W' => rdS G none c.fx W' fb) (ts := fun a cls d => rdS G (some (a, cls, d)) c.fx (fun _ _ _ _ => False) fs') s1 s2 (by rw [gd.hN]; exact l2) (by rw [gd.hN]; exact l1) (by show X.env.scope.names.lookup n = _; rw [gd.sc]; exact of_decide_eq_true hlo) ⟨h1, h2, .inl (by rw [gd.mg]; exact gt)⟩ tk
    (fun W' pn xe tk' own => hb _ none (good_tr gd hc own) W' tk') (fun a oe cls d pn hz hf => hs _ _ (good_suite gd hz hf) _ takesF)) fun D σ H ⟨B, F, e, o, p⟩ => ?_
  refine ⟨B, F, e, o, ?_⟩
  unfold tryA at p
  cases q : fb e with
  | st => rw [q] at p; exact p.elim
  | ok fl e' =>
    rw [q] at p
    cases fl with
    | nx => exact p
    | bk => exact p
    | ct => exact p
    | rt r => exact p
  | ex cn fs e' =>
    rw [q] at p
    dsimp only at p
    by_cases hk : (known cn && okF fs) = true
    · rw [if_pos hk] at p
      rw [Bool.and_eq_true] at hk
      intro F' H' σ' cls d s1 o1 x1
      obtain ⟨C, ec, m, hv⟩ := exv_of x1
      have hv := hv hk.2
      subst ec
      refine ⟨isSub cn t, by rw [gd.K]; exact hx cn C hk.1 m, fun hyes a na => ?_, fun hno => ?_⟩
      · rw [if_pos hyes] at p
        refine ⟨B, F', _, o1.catch l4 m hv, ?_⟩
        cases q2 : fs' (e'.set i (.ex cn (fs.getD []))) with
        | st => rw [q2] at p; exact p.elim
        | ex _ _ _ => rw [q2] at p; exact p.elim
        | ok fl e2 =>
          rw [q2] at p
          cases fl with
          | nx => exact fun F2 H2 σ2 s2 o2 => p F2 H2 _ (s1.trans s2) ((o2.gone l4).unx)
          | bk => exact p.elim
          | ct => exact p.elim
          | rt r => exact p.elim
      · rw [if_neg (by rw [hno]; simp)] at p
        exact p F' H' σ' _ d s1 o1 x1
    · rw [if_neg hk] at p
      exact p.elim
/-- several clauses -/
inductive CatchOk (G : Gb) (c : Cp) : List ExceptHandler → List (Str × M Fl) → Prop
  | nil : CatchOk G c [] []
  | cons {t : Str} {b0 : Stmt} {suite : List Stmt} {f : M Fl} {np pos' : Pos} {hds : List ExceptHandler} {l : List (Str × M Fl)} (T : Nm G t) (h : chkG c t = true) (hs : DSs G { c with cm := false } (b0 :: suite) f) (r : CatchOk G c hds l) :
      CatchOk G c (.ExceptHandler (some (.Name t np)) none (b0 :: suite) pos' :: hds) ((t, f) :: l)
theorem catch_hds (gd : Good G c none X) : ∀ {hds : List ExceptHandler} {l : List (Str × M Fl)}, CatchOk G c hds l →
    ∃ us : List (Value × (Addr → Value → Option Addr → TS)), HdsOk X hds us ∧ ∀ (D : Ends) (B : Bs) (F : Hp) (cn : Str) (fs : Option Fds) (e : List Slot) (W : WX), PostS G none c.fx W B D F (catchM l cn fs e) → ∀ F' H' σ' cls d, Same F F' → Ok G none c.fx B F' H' σ' e → ExOk G F' cn fs cls d → wMany X.K W D us cls d σ' H' := by
  intro hds l hk
  induction hk with
  | nil => exact ⟨[], .nil, fun D B F cn fs e W p F' H' σ' cls d s o x => p F' H' σ' cls d s o x⟩
  | @cons t b0 suite f np pos' hds l T h hs r ih =>
    obtain ⟨us, h1, h2⟩ := ih
    obtain ⟨u, gt, hx⟩ := T.ex
    obtain ⟨g1, g2, g3⟩ := chkG_ok h gd
    refine ⟨(u, fun a cls d => rdS G (some (a, cls, d)) c.fx (fun _ _ _ _ => False) f) :: us, .cons ⟨g1, g2, .inl (by rw [gd.mg]; exact gt)⟩ (fun a oe cls d pn hz hf => hs _ _ (good_suite gd hz hf) _ takesF) h1, ?_⟩
    intro D B F cn fs e W p F' H' σ' cls d s o x
    obtain ⟨C, ec, m, hv⟩ := exv_of x
    subst ec
    unfold catchM at p
    by_cases hk : known cn = true
    · rw [if_pos hk] at p
      refine ⟨isSub cn t, by rw [gd.K]; exact hx cn C hk m, fun hyes a na => ?_, fun hno => ?_⟩
      · rw [if_pos hyes] at p
        refine ⟨B, F', e, o.toX fun _ _ _ _ _ z => slot_none z, ?_⟩
        cases q : f e with
        | st => rw [q] at p; exact p.elim
        | ex _ _ _ => rw [q] at p; exact p.elim
        | ok fl e2 =>
          rw [q] at p
          cases fl with
          | nx => exact fun F2 H2 σ2 s2 o2 => p F2 H2 _ (s.trans s2) o2.unx
          | bk => exact p.elim
          | ct => exact p.elim
          | rt r => exact p.elim
      · rw [if_neg (by rw [hno]; simp)] at p
        exact h2 D B F cn fs e W p F' H' σ' _ d s o x
    · rw [if_neg hk] at p
      exact p.elim
theorem ds_tryM {h0 : ExceptHandler} {hds : List ExceptHandler} {l : List (Str × M Fl)} (ht : c.top = true) (hc : c.cm = true) (hb : DSs G c body fb) (hh : CatchOk G c (h0 :: hds) l) :
    DS G c (.Try body (h0 :: hds) [] [] pos) (tryM fb l) := fun X xa gd W tk => by
  obtain ⟨s1, s2⟩ := gd.stk ht
  have exa : xa = none := gd.xn hc
  subst exa
  obtain ⟨us, h1, h2⟩ := catch_hds gd hh
  refine PS.weak (ps_try_many (Wout := W) (tb := fun W' => rdS G none c.fx W' fb) s1 s2 tk (fun W' pn xe tk' own => hb _ none (good_tr gd hc own) W' tk') h1) fun D σ H ⟨B, F, e, o, p⟩ => ?_
  refine ⟨B, F, e, o, ?_⟩
  unfold tryM at p
  cases q : fb e with
  | st => rw [q] at p; exact p.elim
  | ok fl e' =>
    rw [q] at p
    cases fl with
    | nx => exact p
    | bk => exact p
    | ct => exact p
    | rt r => exact p
  | ex cn fs e' =>
    rw [q] at p
    exact h2 D B F cn fs e' W p
end
end DL
set_option Elab.async false
set_option linter.all false
set_option maxRecDepth 100000
set_option maxHeartbeats 1000000
noncomputable section
namespace DL
open PySem PySem.Spec L2
open PyProof.Rows hiding St
set_option autoImplicit false

/-! ### what a text computes: evaluation by simp -/
/-- small enough as a right factor -/
def Fits (j : Int) : Prop := -18446744073709551616 < j ∧ j < 18446744073709551616
/-- small enough as a range's end -/
def Near (j : Int) : Prop := -1000000 < j ∧ j < 1000000
@[simp] theorem fits_0 : Fits 0 := ⟨by decide, by decide⟩
@[simp] theorem near_0 : Near 0 := ⟨by decide, by decide⟩
@[simp] theorem fits_1 : Fits 1 := ⟨by decide, by decide⟩
@[simp] theorem near_1 : Near 1 := ⟨by decide, by decide⟩
@[simp] theorem fits_2 : Fits 2 := ⟨by decide, by decide⟩
@[simp] theorem near_2 : Near 2 := ⟨by decide, by decide⟩
@[simp] theorem fits_3 : Fits 3 := ⟨by decide, by decide⟩
@[simp] theorem near_3 : Near 3 := ⟨by decide, by decide⟩
@[simp] theorem fits_4 : Fits 4 := ⟨by decide, by decide⟩
@[simp] theorem near_4 : Near 4 := ⟨by decide, by decide⟩
@[simp] theorem fits_5 : Fits 5 := ⟨by decide, by decide⟩
@[simp] theorem near_5 : Near 5 := ⟨by decide, by decide⟩
@[simp] theorem fits_6 : Fits 6 := ⟨by decide, by decide⟩
@[simp] theorem near_6 : Near 6 := ⟨by decide, by decide⟩
@[simp] theorem fits_7 : Fits 7 := ⟨by decide, by decide⟩
@[simp] theorem near_7 : Near 7 := ⟨by decide, by decide⟩
@[simp] theorem fits_8 : Fits 8 := ⟨by decide, by decide⟩
@[simp] theorem near_8 : Near 8 := ⟨by decide, by decide⟩
@[simp] theorem fits_9 : Fits 9 := ⟨by decide, by decide⟩
@[simp] theorem near_9 : Near 9 := ⟨by decide, by decide⟩
@[simp] theorem fits_10 : Fits 10 := ⟨by decide, by decide⟩
@[simp] theorem near_10 : Near 10 := ⟨by decide, by decide⟩
@[simp] theorem fits_11 : Fits 11 := ⟨by decide, by decide⟩
@[simp] theorem near_11 : Near 11 := ⟨by decide, by decide⟩
@[simp] theorem fits_12 : Fits 12 := ⟨by decide, by decide⟩
@[simp] theorem near_12 : Near 12 := ⟨by decide, by decide⟩
@[simp] theorem fits_13 : Fits 13 := ⟨by decide, by decide⟩
@[simp] theorem near_13 : Near 13 := ⟨by decide, by decide⟩
@[simp] theorem fits_14 : Fits 14 := ⟨by decide, by decide⟩
@[simp] theorem near_14 : Near 14 := ⟨by decide, by decide⟩
@[simp] theorem fits_15 : Fits 15 := ⟨by decide, by decide⟩
@[simp] theorem near_15 : Near 15 := ⟨by decide, by decide⟩
@[simp] theorem fits_16 : Fits 16 := ⟨by decide, by decide⟩
@[simp] theorem near_16 : Near 16 := ⟨by decide, by decide⟩
@[simp] theorem fits_17 : Fits 17 := ⟨by decide, by decide⟩
@[simp] theorem near_17 : Near 17 := ⟨by decide, by decide⟩
@[simp] theorem fits_18 : Fits 18 := ⟨by decide, by decide⟩
@[simp] theorem near_18 : Near 18 := ⟨by decide, by decide⟩
@[simp] theorem fits_19 : Fits 19 := ⟨by decide, by decide⟩
@[simp] theorem near_19 : Near 19 := ⟨by decide, by decide⟩
@[simp] theorem fits_20 : Fits 20 := ⟨by decide, by decide⟩
@[simp] theorem near_20 : Near 20 := ⟨by decide, by decide⟩
@[simp] theorem fits_21 : Fits 21 := ⟨by decide, by decide⟩
@[simp] theorem near_21 : Near 21 := ⟨by decide, by decide⟩
@[simp] theorem fits_22 : Fits 22 := ⟨by decide, by decide⟩
@[simp] theorem near_22 : Near 22 := ⟨by decide, by decide⟩
@[simp] theorem fits_23 : Fits 23 := ⟨by decide, by decide⟩
@[simp] theorem near_23 : Near 23 := ⟨by decide, by decide⟩
@[simp] theorem fits_24 : Fits 24 := ⟨by decide, by decide⟩
@[simp] theorem near_24 : Near 24 := ⟨by decide, by decide⟩
@[simp] theorem fits_25 : Fits 25 := ⟨by decide, by decide⟩
@[simp] theorem near_25 : Near 25 := ⟨by decide, by decide⟩
@[simp] theorem fits_26 : Fits 26 := ⟨by decide, by decide⟩
@[simp] theorem near_26 : Near 26 := ⟨by decide, by decide⟩
@[simp] theorem fits_27 : Fits 27 := ⟨by decide, by decide⟩
@[simp] theorem near_27 : Near 27 := ⟨by decide, by decide⟩
@[simp] theorem fits_28 : Fits 28 := ⟨by decide, by decide⟩
@[simp] theorem near_28 : Near 28 := ⟨by decide, by decide⟩
@[simp] theorem fits_29 : Fits 29 := ⟨by decide, by decide⟩
@[simp] theorem near_29 : Near 29 := ⟨by decide, by decide⟩
@[simp] theorem fits_30 : Fits 30 := ⟨by decide, by decide⟩
@[simp] theorem near_30 : Near 30 := ⟨by decide, by decide⟩
@[simp] theorem fits_31 : Fits 31 := ⟨by decide, by decide⟩
@[simp] theorem near_31 : Near 31 := ⟨by decide, by decide⟩
@[simp] theorem fits_32 : Fits 32 := ⟨by decide, by decide⟩
@[simp] theorem near_32 : Near 32 := ⟨by decide, by decide⟩
@[simp] theorem fits_33 : Fits 33 := ⟨by decide, by decide⟩
@[simp] theorem near_33 : Near 33 := ⟨by decide, by decide⟩
@[simp] theorem fits_34 : Fits 34 := ⟨by decide, by decide⟩
@[simp] theorem near_34 : Near 34 := ⟨by decide, by decide⟩
@[simp] theorem fits_35 : Fits 35 := ⟨by decide, by decide⟩
@[simp] theorem near_35 : Near 35 := ⟨by decide, by decide⟩
@[simp] theorem fits_36 : Fits 36 := ⟨by decide, by decide⟩
@[simp] theorem near_36 : Near 36 := ⟨by decide, by decide⟩
@[simp] theorem fits_37 : Fits 37 := ⟨by decide, by decide⟩
@[simp] theorem near_37 : Near 37 := ⟨by decide, by decide⟩
@[simp] theorem fits_38 : Fits 38 := ⟨by decide, by decide⟩
@[simp] theorem near_38 : Near 38 := ⟨by decide, by decide⟩
@[simp] theorem fits_39 : Fits 39 := ⟨by decide, by decide⟩
@[simp] theorem near_39 : Near 39 := ⟨by decide, by decide⟩
@[simp] theorem fits_40 : Fits 40 := ⟨by decide, by decide⟩
@[simp] theorem near_40 : Near 40 := ⟨by decide, by decide⟩
@[simp] theorem fits_41 : Fits 41 := ⟨by decide, by decide⟩
@[simp] theorem near_41 : Near 41 := ⟨by decide, by decide⟩
@[simp] theorem fits_42 : Fits 42 := ⟨by decide, by decide⟩
@[simp] theorem near_42 : Near 42 := ⟨by decide, by decide⟩
@[simp] theorem fits_43 : Fits 43 := ⟨by decide, by decide⟩
@[simp] theorem near_43 : Near 43 := ⟨by decide, by decide⟩
@[simp] theorem fits_44 : Fits 44 := ⟨by decide, by decide⟩
@[simp] theorem near_44 : Near 44 := ⟨by decide, by decide⟩
@[simp] theorem fits_45 : Fits 45 := ⟨by decide, by decide⟩
@[simp] theorem near_45 : Near 45 := ⟨by decide, by decide⟩
@[simp] theorem fits_46 : Fits 46 := ⟨by decide, by decide⟩
@[simp] theorem near_46 : Near 46 := ⟨by decide, by decide⟩
@[simp] theorem fits_47 : Fits 47 := ⟨by decide, by decide⟩
@[simp] theorem near_47 : Near 47 := ⟨by decide, by decide⟩
@[simp] theorem fits_48 : Fits 48 := ⟨by decide, by decide⟩
@[simp] theorem near_48 : Near 48 := ⟨by decide, by decide⟩
@[simp] theorem fits_49 : Fits 49 := ⟨by decide, by decide⟩
@[simp] theorem near_49 : Near 49 := ⟨by decide, by decide⟩
@[simp] theorem fits_50 : Fits 50 := ⟨by decide, by decide⟩
@[simp] theorem near_50 : Near 50 := ⟨by decide, by decide⟩
@[simp] theorem fits_51 : Fits 51 := ⟨by decide, by decide⟩
@[simp] theorem near_51 : Near 51 := ⟨by decide, by decide⟩
@[simp] theorem fits_52 : Fits 52 := ⟨by decide, by decide⟩
@[simp] theorem near_52 : Near 52 := ⟨by decide, by decide⟩
@[simp] theorem fits_53 : Fits 53 := ⟨by decide, by decide⟩
@[simp] theorem near_53 : Near 53 := ⟨by decide, by decide⟩
@[simp] theorem fits_54 : Fits 54 := ⟨by decide, by decide⟩
@[simp] theorem near_54 : Near 54 := ⟨by decide, by decide⟩
@[simp] theorem fits_55 : Fits 55 := ⟨by decide, by decide⟩
@[simp] theorem near_55 : Near 55 := ⟨by decide, by decide⟩
@[simp] theorem fits_56 : Fits 56 := ⟨by decide, by decide⟩
@[simp] theorem near_56 : Near 56 := ⟨by decide, by decide⟩
@[simp] theorem fits_57 : Fits 57 := ⟨by decide, by decide⟩
@[simp] theorem near_57 : Near 57 := ⟨by decide, by decide⟩
@[simp] theorem fits_58 : Fits 58 := ⟨by decide, by decide⟩
@[simp] theorem near_58 : Near 58 := ⟨by decide, by decide⟩
@[simp] theorem fits_59 : Fits 59 := ⟨by decide, by decide⟩
@[simp] theorem near_59 : Near 59 := ⟨by decide, by decide⟩
@[simp] theorem fits_60 : Fits 60 := ⟨by decide, by decide⟩
@[simp] theorem near_60 : Near 60 := ⟨by decide, by decide⟩
@[simp] theorem fits_61 : Fits 61 := ⟨by decide, by decide⟩
@[simp] theorem near_61 : Near 61 := ⟨by decide, by decide⟩
@[simp] theorem fits_62 : Fits 62 := ⟨by decide, by decide⟩
@[simp] theorem near_62 : Near 62 := ⟨by decide, by decide⟩
@[simp] theorem fits_63 : Fits 63 := ⟨by decide, by decide⟩
@[simp] theorem near_63 : Near 63 := ⟨by decide, by decide⟩
@[simp] theorem fits_64 : Fits 64 := ⟨by decide, by decide⟩
@[simp] theorem near_64 : Near 64 := ⟨by decide, by decide⟩
@[simp] theorem fits_100 : Fits 100 := ⟨by decide, by decide⟩
@[simp] theorem near_100 : Near 100 := ⟨by decide, by decide⟩
@[simp] theorem fits_128 : Fits 128 := ⟨by decide, by decide⟩
@[simp] theorem near_128 : Near 128 := ⟨by decide, by decide⟩
@[simp] theorem fits_256 : Fits 256 := ⟨by decide, by decide⟩
@[simp] theorem near_256 : Near 256 := ⟨by decide, by decide⟩
@[simp] theorem fits_7919 : Fits 7919 := ⟨by decide, by decide⟩
@[simp] theorem near_7919 : Near 7919 := ⟨by decide, by decide⟩
@[simp] theorem fits_48271 : Fits 48271 := ⟨by decide, by decide⟩
@[simp] theorem near_48271 : Near 48271 := ⟨by decide, by decide⟩
@[simp] theorem fits_10007 : Fits 10007 := ⟨by decide, by decide⟩
@[simp] theorem near_10007 : Near 10007 := ⟨by decide, by decide⟩
@[simp] theorem fits_1000 : Fits 1000 := ⟨by decide, by decide⟩
@[simp] theorem near_1000 : Near 1000 := ⟨by decide, by decide⟩
@[simp] theorem fits_10000 : Fits 10000 := ⟨by decide, by decide⟩
@[simp] theorem near_10000 : Near 10000 := ⟨by decide, by decide⟩
@[simp] theorem gd_iff {p : Prop} : gd p ↔ p := Iff.rfl
theorem fits_nat {n : Nat} (h : n < 1000000000) : Fits (n : Int) := ⟨by omega, by omega⟩
theorem near_nat {n : Nat} (h : n < 1000000) : Near (n : Int) := ⟨by omega, by omega⟩
def rng1 (n : Int) (e : List Slot) : Out (List D) := if gd (-1000000 < n ∧ n < 1000000) then .ok (rngD 0 n.toNat) e else .st
def rng2 (a b : Int) (e : List Slot) : Out (List D) := if gd ((-1000000 < a ∧ a < 1000000) ∧ (-1000000 < b ∧ b < 1000000)) then .ok (rngD a (b - a).toNat) e else .st
@[simp] theorem rng1_eq {n : Int} {e : List Slot} (h : Near n) : rng1 n e = .ok (rngD 0 n.toNat) e := if_pos h
@[simp] theorem rng2_eq {a b : Int} {e : List Slot} (h : Near a) (h' : Near b) : rng2 a b e = .ok (rngD a (b - a).toNat) e := if_pos ⟨h, h'⟩
section
variable {α β : Type} {e : List Slot}
@[simp] theorem e_bnd {m : M α} {k : α → M β} : bnd m k e = match m e with
  | .ok a e' => k a e'
  | .ex c fs e' => .ex c fs e'
  | .st => .st := rfl
@[simp] theorem e_bh {m : M RV} {k : RV → M β} : bh m k e = match m e with
  | .ok a e' => k (holdR a) e'
  | .ex c fs e' => .ex c fs e'
  | .st => .st := by
  unfold bh bnd
  cases m e <;> rfl
@[simp] theorem e_hold1 {d : D} : holdR (.sh d) = .sh d := rfl
@[simp] theorem e_hold2 {d : List D} : holdR (.fr d) = .sh (.lst d) := rfl
@[simp] theorem e_hold3 {i : Nat} : holdR (.bo i) = .bo i := rfl
@[simp] theorem e_der1 {d : D} : der e (.sh d) = some d := rfl
@[simp] theorem e_der3 {i : Nat} : der e (.bo i) = match e[i]? with
    | some (.ow xs) => some (.lst xs)
    | some (.sh d) => some d
    | _ => none := rfl
@[simp] theorem e_frz1 {d : D} : frzR (.sh d) e = .ok d e := rfl
@[simp] theorem e_frz2 {d : List D} : frzR (.fr d) e = .ok (.lst d) e := rfl
@[simp] theorem e_frz3 {i : Nat} : frzR (.bo i) e = match e[i]? with
    | some (.ow xs) => .ok (.lst xs) (e.set i (.sh (.lst xs)))
    | some (.ob c fs) => .ok (.ins c fs) (e.set i (.sh (.ins c fs)))
    | some (.sh d) => .ok d e
    | _ => .st := rfl
@[simp] theorem e_argsN : argsM [] e = .ok [] e := rfl
@[simp] theorem e_argsC {f : M RV} {fs : List (M RV)} : argsM (f :: fs) e = match f e with
  | .ok a e' => (match argsM fs e' with
    | .ok rs e'' => .ok (holdR a :: rs) e''
    | .ex c fs e' => .ex c fs e'
    | .st => .st)
  | .ex c fs e' => .ex c fs e'
  | .st => .st := by
  show bh f _ e = _
  rw [e_bh]
  cases f e with
  | ok a e' =>
    dsimp only
    rw [e_bnd]
    cases argsM fs e' <;> rfl
  | _ => rfl
@[simp] theorem e_frzN : frzL [] e = .ok [] e := rfl
@[simp] theorem e_frzC {r : RV} {rs : List RV} : frzL (r :: rs) e = match frzR r e with
  | .ok d e' => (match frzL rs e' with
    | .ok ds e'' => .ok (d :: ds) e''
    | .ex c fs e' => .ex c fs e'
    | .st => .st)
  | .ex c fs e' => .ex c fs e'
  | .st => .st := by
  show bnd (frzR r) _ e = _
  rw [e_bnd]
  cases frzR r e with
  | ok a e' =>
    dsimp only
    rw [e_bnd]
    cases frzL rs e' <;> rfl
  | _ => rfl
@[simp] theorem e_derN : derL e [] = some [] := rfl
@[simp] theorem e_derC {r : RV} {rs : List RV} : derL e (r :: rs) = (der e r).bind fun d => (derL e rs).bind fun ds => some (d :: ds) := rfl
@[simp] theorem e_retD {r : RV} : retD r e = .ok r e := rfl
@[simp] theorem e_appS {r : RV} : appD (some r) e = .ok r e := rfl
@[simp] theorem e_appN : appD none e = .st := rfl
@[simp] theorem e_kc {d : D} : kc d e = .ok (.sh d) e := rfl
@[simp] theorem e_v {i : Nat} : v i e = match e[i]? with
  | some (.sh d) => .ok (.sh d) e
  | some (.ow _) => .ok (.bo i) e
  | some (.ob _ _) => .ok (.bo i) e
  | _ => .st := rfl
@[simp] theorem e_op2 {g : D → D → Option RV} {fa fb : M RV} : op2 g fa fb e = match fa e with
  | .ok a e' => (match fb e' with
    | .ok b e'' => appD ((der e'' (holdR a)).bind fun d1 => (der e'' (holdR b)).bind fun d2 => g d1 d2) e''
    | .ex c fs e' => .ex c fs e'
    | .st => .st)
  | .ex c fs e' => .ex c fs e'
  | .st => .st := by
  unfold op2
  rw [e_bh]
  cases fa e with
  | ok a e' =>
    dsimp only
    rw [e_bh]
  | _ => rfl
@[simp] theorem e_asB {m : M RV} : asB m e = match m e with
  | .ok (.sh (.bl b)) e' => .ok b e'
  | .ex c fs e' => .ex c fs e'
  | _ => .st := by
  unfold asB bnd
  cases m e with
  | ok a e' =>
    cases a with
    | sh d => cases d <;> rfl
    | _ => rfl
  | _ => rfl
@[simp] theorem e_andT {a b : M Bool} : andT a b e = match a e with
  | .ok true e' => b e'
  | .ok false e' => .ok false e'
  | .ex c fs e' => .ex c fs e'
  | .st => .st := by
  unfold andT bnd
  cases a e with
  | ok x e' => cases x <;> rfl
  | _ => rfl
@[simp] theorem e_orT {a b : M Bool} : orT a b e = match a e with
  | .ok true e' => .ok true e'
  | .ok false e' => b e'
  | .ex c fs e' => .ex c fs e'
  | .st => .st := by
  unfold orT bnd
  cases a e with
  | ok x e' => cases x <;> rfl
  | _ => rfl
@[simp] theorem e_notT {a : M Bool} : notT a e = match a e with
  | .ok x e' => .ok (!x) e'
  | .ex c fs e' => .ex c fs e'
  | .st => .st := by
  unfold notT bnd
  cases a e <;> rfl
@[simp] theorem e_ofB {a : M Bool} : ofB a e = match a e with
  | .ok x e' => .ok (.sh (.bl x)) e'
  | .ex c fs e' => .ex c fs e'
  | .st => .st := by
  unfold ofB bnd
  cases a e <;> rfl
@[simp] theorem e_andV {a b : M RV} : andV a b e = match asB a e with
  | .ok true e' => b e'
  | .ok false e' => .ok (.sh (.bl false)) e'
  | .ex c fs e' => .ex c fs e'
  | .st => .st := by
  unfold andV bnd
  cases asB a e with
  | ok x e' => cases x <;> rfl
  | _ => rfl
@[simp] theorem e_orV {a b : M RV} : orV a b e = match asB a e with
  | .ok true e' => .ok (.sh (.bl true)) e'
  | .ok false e' => b e'
  | .ex c fs e' => .ex c fs e'
  | .st => .st := by
  unfold orV bnd
  cases asB a e with
  | ok x e' => cases x <;> rfl
  | _ => rfl
@[simp] theorem e_notV {a : M RV} : notV a e = match asB a e with
  | .ok x e' => .ok (.sh (.bl (!x))) e'
  | .ex c fs e' => .ex c fs e'
  | .st => .st := by
  unfold notV bnd
  cases asB a e <;> rfl
@[simp] theorem e_chain {g g' : D → D → Option RV} {fa fb fc : M RV} : chainE g g' fa fb fc e = match fa e with
  | .ok a e' => (match fb e' with
    | .ok b e'' => (match (der e'' (holdR a)).bind fun d1 => (der e'' (holdR b)).bind fun d2 => g d1 d2 with
      | some (.sh (.bl true)) => (match fc e'' with
        | .ok c e3 => appD ((der e3 (holdR b)).bind fun d2 => (der e3 (holdR c)).bind fun d3 => g' d2 d3) e3
        | .ex c fs e' => .ex c fs e'
        | .st => .st)
      | some (.sh (.bl false)) => .ok (.sh (.bl false)) e''
      | _ => .st)
    | .ex c fs e' => .ex c fs e'
    | .st => .st)
  | .ex c fs e' => .ex c fs e'
  | .st => .st := by
  unfold chainE
  rw [e_bh]
  cases fa e with
  | ok a e' =>
    dsimp only
    rw [e_bh]
    cases fb e' with
    | ok b e'' =>
      dsimp only
      cases (der e'' (holdR a)).bind fun d1 => (der e'' (holdR b)).bind fun d2 => g d1 d2 with
      | none => rfl
      | some r =>
        cases r with
        | sh d =>
          cases d with
          | bl b =>
            cases b with
            | true =>
              dsimp only
              simp only [e_bh]
            | false => rfl
          | _ => rfl
        | _ => rfl
    | _ => rfl
  | _ => rfl
@[simp] theorem e_tup {fs : List (M RV)} : tupE fs e = match argsM fs e with
  | .ok rs e' => (match frzL rs e' with
    | .ok ds e'' => .ok (.sh (.tup ds)) e''
    | .ex c fs e' => .ex c fs e'
    | .st => .st)
  | .ex c fs e' => .ex c fs e'
  | .st => .st := by
  unfold tupE
  rw [e_bnd]
  cases argsM fs e with
  | ok a e' =>
    dsimp only
    rw [e_bnd]
    cases frzL a e' <;> rfl
  | _ => rfl
@[simp] theorem e_lst {fs : List (M RV)} : lstE fs e = match argsM fs e with
  | .ok rs e' => (match frzL rs e' with
    | .ok ds e'' => .ok (.fr ds) e''
    | .ex c fs e' => .ex c fs e'
    | .st => .st)
  | .ex c fs e' => .ex c fs e'
  | .st => .st := by
  unfold lstE
  rw [e_bnd]
  cases argsM fs e with
  | ok a e' =>
    dsimp only
    rw [e_bnd]
    cases frzL a e' <;> rfl
  | _ => rfl
@[simp] theorem e_noI : noI e = .ok none e := rfl
@[simp] theorem e_asI {m : M RV} : asI m e = match m e with
  | .ok (.sh (.int i)) e' => .ok (some i) e'
  | .ex c fs e' => .ex c fs e'
  | _ => .st := by
  unfold asI bnd
  cases m e with
  | ok a e' =>
    cases a with
    | sh d => cases d <;> rfl
    | _ => rfl
  | _ => rfl
@[simp] theorem e_asI' {m : M RV} : asI' m e = match m e with
  | .ok (.sh (.int i)) e' => .ok i e'
  | .ex c fs e' => .ex c fs e'
  | _ => .st := by
  unfold asI' bnd
  cases m e with
  | ok a e' =>
    cases a with
    | sh d => cases d <;> rfl
    | _ => rfl
  | _ => rfl
@[simp] theorem e_slc {f : M RV} {lo hi : M (Option Int)} : slcE f lo hi e = match f e with
  | .ok r e' => (match lo e' with
    | .ok l e'' => (match hi e'' with
      | .ok h e3 => appD ((der e3 (holdR r)).bind (slcD l h)) e3
      | .ex c fs e' => .ex c fs e'
      | .st => .st)
    | .ex c fs e' => .ex c fs e'
    | .st => .st)
  | .ex c fs e' => .ex c fs e'
  | .st => .st := by
  unfold slcE
  rw [e_bh]
  cases f e with
  | ok a e' =>
    dsimp only
    rw [e_bnd]
    cases lo e' with
    | ok l e2 =>
      dsimp only
      rw [e_bnd]
      cases hi e2 <;> rfl
    | _ => rfl
  | _ => rfl
@[simp] theorem e_fld {c f : Str} {m : M RV} : fldE c f m e = match m e with
  | .ok r e' => (match (match holdR r with
    | .bo i => (match e'[i]? with
      | some (.ob c' fs) => some (D.ins c' fs)
      | some (.sh d) => some d
      | _ => none)
    | .sh d => some d
    | _ => none) with
    | some (.ins c' fs) => if c' = c then (match fs.lookup f with
      | some d => .ok (.sh d) e'
      | none => .st) else .st
    | _ => .st)
  | .ex c fs e' => .ex c fs e'
  | .st => .st := by
  unfold fldE
  first
    | (rw [e_bh]; done)
    | (rw [e_bh]; cases m e <;> rfl)
@[simp] theorem e_callB {g : List D → Option RV} {fs : List (M RV)} : callB g fs e = match argsM fs e with
  | .ok rs e' => appD ((derL e' rs).bind g) e'
  | .ex c fs e' => .ex c fs e'
  | .st => .st := by
  unfold callB
  rw [e_bnd]
  cases argsM fs e <;> rfl
@[simp] theorem e_isi {T : String} {fa : M RV} : isiE T fa e = match fa e with
  | .ok r e' => (match (der e' (holdR r)).bind (isB T) with
    | some b => .ok (.sh (.bl b)) e'
    | none => .st)
  | .ex c fs e' => .ex c fs e'
  | .st => .st := by
  unfold isiE
  first
    | (rw [e_bh]; done)
    | (rw [e_bh]; cases fa e <;> rfl)
@[simp] theorem e_iso {cl : Str} {fa : M RV} : isoE cl fa e = match fa e with
  | .ok r e' => (match der e' (holdR r) with
    | some (.ins c' _) => if c' = cl then .ok (.sh (.bl true)) e' else .st
    | _ => .st)
  | .ex c fs e' => .ex c fs e'
  | .st => .st := by
  unfold isoE
  first
    | (rw [e_bh]; done)
    | (rw [e_bh]; cases fa e <;> rfl)
@[simp] theorem e_callU {g : List D → FOut} {fs : List (M RV)} : callU g fs e = match argsM fs e with
  | .ok rs e' => (match frzL rs e' with
    | .ok ds e'' => (match g ds with
      | .ok r => .ok r e''
      | .ex c f => .ex c f e''
      | .st => .st)
    | .ex c fs e' => .ex c fs e'
    | .st => .st)
  | .ex c fs e' => .ex c fs e'
  | .st => .st := by
  unfold callU
  rw [e_bnd]
  cases argsM fs e with
  | ok a e' =>
    dsimp only
    rw [e_bnd]
    cases frzL a e' <;> rfl
  | _ => rfl
@[simp] theorem e_itL {f : M RV} : itL f e = match f e with
  | .ok r e' => (match frzR (holdR r) e' with
    | .ok (.lst xs) e'' => .ok xs e''
    | .ex c fs e' => .ex c fs e'
    | _ => .st)
  | .ex c fs e' => .ex c fs e'
  | .st => .st := by
  unfold itL
  rw [e_bh]
  cases f e with
  | ok r e' =>
    dsimp only
    rw [e_bnd]
    cases frzR (holdR r) e' with
    | ok d e'' => cases d <;> rfl
    | _ => rfl
  | _ => rfl
@[simp] theorem e_itT {f : M RV} : itT f e = match f e with
  | .ok r e' => (match frzR (holdR r) e' with
    | .ok (.tup xs) e'' => .ok xs e''
    | .ex c fs e' => .ex c fs e'
    | _ => .st)
  | .ex c fs e' => .ex c fs e'
  | .st => .st := by
  unfold itT
  rw [e_bh]
  cases f e with
  | ok r e' =>
    dsimp only
    rw [e_bnd]
    cases frzR (holdR r) e' with
    | ok d e'' => cases d <;> rfl
    | _ => rfl
  | _ => rfl
@[simp] theorem e_itR1 {f : M RV} : itR1 f e = match asI' f e with
  | .ok n e' => rng1 n e'
  | .ex c fs e' => .ex c fs e'
  | .st => .st := by
  unfold itR1
  rw [e_bnd]
  cases asI' f e <;> rfl
@[simp] theorem e_itR2 {f g : M RV} : itR2 f g e = match asI' f e with
  | .ok a e' => (match asI' g e' with
    | .ok b e'' => rng2 a b e''
    | .ex c fs e' => .ex c fs e'
    | .st => .st)
  | .ex c fs e' => .ex c fs e'
  | .st => .st := by
  unfold itR2
  rw [e_bnd]
  cases asI' f e with
  | ok a e' =>
    dsimp only
    rw [e_bnd]
    cases asI' g e' <;> rfl
  | _ => rfl
@[simp] theorem e_yes : yesT e = .ok true e := rfl
-- statements
@[simp] theorem e_nx : nxS e = .ok .nx e := rfl
@[simp] theorem e_seq {f g : M Fl} : seqS f g e = match f e with
  | .ok .nx e' => g e'
  | o => o := rfl
@[simp] theorem e_set {i : Nat} {f : M RV} : setS i f e = match f e with
  | .ok r e' => (match frzR (holdR r) e' with
    | .ok d e'' => .ok .nx (e''.set i (.sh d))
    | .ex c fs e' => .ex c fs e'
    | .st => .st)
  | .ex c fs e' => .ex c fs e'
  | .st => .st := by
  unfold setS
  rw [e_bh]
  cases f e with
  | ok a e' =>
    dsimp only
    rw [e_bnd]
    cases frzR (holdR a) e' <;> rfl
  | _ => rfl
@[simp] theorem e_setM {i : Nat} {f : M RV} : setM i f e = match f e with
  | .ok (.fr xs) e' => .ok .nx (e'.set i (.ow xs))
  | .ok r e' => (match frzR r e' with
    | .ok d e'' => .ok .nx (e''.set i (.sh d))
    | .ex c fs e' => .ex c fs e'
    | .st => .st)
  | .ex c fs e' => .ex c fs e'
  | .st => .st := by
  unfold setM
  rw [e_bnd]
  cases f e with
  | ok r e' =>
    cases r with
    | fr xs => rfl
    | sh d => rfl
    | bo i =>
      dsimp only
      rw [e_bnd]
      cases frzR (.bo i) e' <;> rfl
  | _ => rfl
@[simp] theorem e_if {t : M Bool} {f g : M Fl} : ifS t f g e = match t e with
  | .ok true e' => f e'
  | .ok false e' => g e'
  | .ex c fs e' => .ex c fs e'
  | .st => .st := by
  unfold ifS
  rw [e_bnd]
  cases t e with
  | ok x e' => cases x <;> rfl
  | _ => rfl
theorem e_ret0 {fx : List Nat} {f : M RV} : retS fx f e = match f e with
  | .ok (.bo i) e' => (match e'[i]? with
    | some (.ow xs) => if i ∈ fx then .ok (.rt (.sh (.lst xs))) (e'.set i (.sh (.lst xs))) else .ok (.rt (.fr xs)) (e'.set i .un)
    | some (.ob c fs) => .ok (.rt (.sh (.ins c fs))) (e'.set i (.sh (.ins c fs)))
    | some (.sh d) => .ok (.rt (.sh d)) e'
    | _ => .st)
  | .ok r e' => .ok (.rt r) e'
  | .ex c fs e' => .ex c fs e'
  | .st => .st := by
  unfold retS
  rw [e_bnd]
  cases f e with
  | ok r e' =>
    cases r with
    | bo i =>
      dsimp only
      cases h : e'[i]? with
      | none => simp [h]
      | some s => cases s <;> simp [h]
    | _ => rfl
  | _ => rfl
@[simp] theorem e_ret {fx : List Nat} {f : M RV} : retS fx f e = match f e with
  | .ok (.bo i) e' => (match e'[i]? with
    | some (.ow xs) => if i ∈ fx then .ok (.rt (.sh (.lst xs))) (e'.set i (.sh (.lst xs))) else .ok (.rt (.fr xs)) (e'.set i .un)
    | some (.ob c fs) => .ok (.rt (.sh (.ins c fs))) (e'.set i (.sh (.ins c fs)))
    | some (.sh d) => .ok (.rt (.sh d)) e'
    | _ => .st)
  | .ok r e' => .ok (.rt r) e'
  | .ex c fs e' => .ex c fs e'
  | .st => .st := e_ret0
@[simp] theorem e_drop {f : M RV} : dropS f e = match f e with
  | .ok _ e' => .ok .nx e'
  | .ex c fs e' => .ex c fs e'
  | .st => .st := by
  unfold dropS
  rw [e_bnd]
  cases f e <;> rfl
@[simp] theorem e_lstAt {i : Nat} : lstAt e i = match e[i]? with
  | some (.ow xs) => some xs
  | _ => none := rfl
@[simp] theorem e_chg {i : Nat} {g : List D → D → Option (List D)} {f : M RV} : chgS i g f e = match lstAt e i with
  | none => .st
  | some _ => (match f e with
    | .ok r e' => (match frzR (holdR r) e' with
      | .ok d e'' => (match (lstAt e'' i).bind fun xs => g xs d with
        | some ys => .ok .nx (e''.set i (.ow ys))
        | none => .st)
      | .ex c fs e' => .ex c fs e'
      | .st => .st)
    | .ex c fs e' => .ex c fs e'
    | .st => .st) := by
  unfold chgS
  cases lstAt e i with
  | none => rfl
  | some xs =>
    dsimp only
    rw [e_bh]
    cases f e with
    | ok a e' =>
      dsimp only
      rw [e_bnd]
      cases frzR (holdR a) e' <;> rfl
    | _ => rfl
@[simp] theorem e_app {i : Nat} {f : M RV} : appS i f = chgS i (fun xs d => if gd (xs.length < 100000) then some (xs ++ [d]) else none) f := rfl
@[simp] theorem e_ext {i : Nat} {f : M RV} : extS i f = chgS i (fun xs d => match d with
  | .lst ys => if gd (xs.length + ys.length ≤ 100000) then some (xs ++ ys) else none
  | _ => none) f := rfl
@[simp] theorem e_clr {i : Nat} : clrS i e = match lstAt e i with
  | none => .st
  | some _ => .ok .nx (e.set i (.ow [])) := rfl
@[simp] theorem e_pop {i : Nat} : popE i e = match lstAt e i with
  | none => .st
  | some xs => match xs[xs.length - 1]? with
    | some d => .ok (.sh d) (e.set i (.ow xs.dropLast))
    | none => .st := rfl
@[simp] theorem e_put {i : Nat} {fi fv : M RV} : putS i fi fv e = match fv e with
  | .ok r e1 => (match frzR (holdR r) e1 with
    | .ok d e2 => (match lstAt e2 i with
      | none => .st
      | some _ => (match fi e2 with
        | .ok r e3 => (match der e3 (holdR r), lstAt e3 i with
          | some (.int k), some xs => (match ixN xs.length k with
            | some j => .ok .nx (e3.set i (.ow (xs.set j d)))
            | none => .st)
          | _, _ => .st)
        | .ex c fs e' => .ex c fs e'
        | .st => .st))
    | .ex c fs e' => .ex c fs e'
    | .st => .st)
  | .ex c fs e' => .ex c fs e'
  | .st => .st := by
  unfold putS
  rw [e_bh]
  cases fv e with
  | ok r e1 =>
    dsimp only
    rw [e_bnd]
    cases frzR (holdR r) e1 with
    | ok d e2 =>
      dsimp only
      cases lstAt e2 i with
      | none => rfl
      | some xs =>
        dsimp only
        first
          | (rw [e_bh]; done)
          | (rw [e_bh]; cases fi e2 <;> rfl)
    | _ => rfl
  | _ => rfl
@[simp] theorem e_fldS {cl : Str} {i : Nat} {f : Str} {fv : M RV} : fldS cl i f fv e = match fv e with
  | .ok r e1 => (match frzR (holdR r) e1 with
    | .ok d e2 => (match e2[i]? with
      | some (.ob c fs) => if c = cl ∧ fs.length < 90 then .ok .nx (e2.set i (.ob c (putD f d fs))) else .st
      | _ => .st)
    | .ex c fs e' => .ex c fs e'
    | .st => .st)
  | .ex c fs e' => .ex c fs e'
  | .st => .st := by
  unfold fldS
  rw [e_bh]
  cases fv e with
  | ok a e' =>
    dsimp only
    rw [e_bnd]
    cases frzR (holdR a) e' <;> rfl
  | _ => rfl
@[simp] theorem e_rai {c : Str} : raiS c e = .ex c none e := rfl
@[simp] theorem e_for {ix : Nat} {it : M (List D)} {body : M Fl} : forS ix it body e = match it e with
  | .ok ds e' => forL ix body ds e'
  | .ex c fs e' => .ex c fs e'
  | .st => .st := by
  unfold forS
  rw [e_bnd]
  cases it e <;> rfl
@[simp] theorem e_comp {ix : Nat} {it : M (List D)} {t : M Bool} {f : M RV} : compE ix it t f e = match it e with
  | .ok ds e' => (match e'[ix]? with
    | some s => if isOw s then .st else match compL ix t f ds [] (e'.set ix .un) with
      | .ok acc e' => .ok (.fr acc) (e'.set ix s)
      | _ => .st
    | none => .st)
  | .ex c fs e' => .ex c fs e'
  | .st => .st := by
  unfold compE
  rw [e_bnd]
  cases it e <;> rfl
@[simp] theorem isOw_un : isOw .un = false := rfl
@[simp] theorem isOw_sh {d : D} : isOw (.sh d) = false := rfl
@[simp] theorem e_def {np n : Nat} {body : M Fl} {ds : List D} : defF np n body ds = match body (ds.map .sh ++ List.replicate (n - np) .un) with
  | .ok (.rt (.sh d)) _ => .ok (.sh d)
  | .ok (.rt (.fr xs)) _ => .ok (.fr xs)
  | .ok .nx _ => .ok (.sh .non)
  | .ex c fs _ => .ex c fs
  | _ => .st := rfl
@[simp] theorem e_mk {cl : Str} {np n : Nat} {body : M Fl} {ds : List D} : mkF cl np n body ds = match body (.ob cl [] :: ds.map .sh ++ List.replicate (n - np) .un) with
  | .ok .nx e => (match (e[0]? : Option Slot) with
    | some (.ob c fs) => .ok (.sh (.ins c fs))
    | some (.sh d) => .ok (.sh d)
    | _ => .st)
  | .ex c fs _ => .ex c fs
  | _ => .st := rfl
end

/-! ### the operators -/
@[simp] theorem o_addI {i j : Int} : addD (.int i) (.int j) = some (.sh (.int (i + j))) := rfl
@[simp] theorem o_subI {i j : Int} : subD (.int i) (.int j) = some (.sh (.int (i - j))) := rfl
@[simp] theorem o_mulI {i j : Int} (h : Fits j) : mulD (.int i) (.int j) = some (.sh (.int (i * j))) := by
  show (if gd (-(2 ^ 64) < j ∧ j < 2 ^ 64) then _ else _) = _
  obtain ⟨h1, h2⟩ := h
  exact if_pos (show -(2 ^ 64) < j ∧ j < 2 ^ 64 by omega)
@[simp] theorem o_divI {i j : Int} (h : 0 < j ∧ j < 1073741824) : divD (.int i) (.int j) = some (.sh (.int (i / j))) := by
  exact if_pos (c := gd (0 < j ∧ j < 1073741824)) h
@[simp] theorem o_modI {i j : Int} (h : 0 < j) : modD (.int i) (.int j) = some (.sh (.int (i % j))) := by
  show (if 0 < j then _ else _) = _
  rw [if_pos h]
@[simp] theorem o_cmpI {p : Int → Int → Bool} {i j : Int} : cmpD p (.int i) (.int j) = some (.sh (.bl (p i j))) := rfl
@[simp] theorem o_eqI {i j : Int} : eqD (.int i) (.int j) = some (.sh (.bl (decide (i = j)))) := rfl
@[simp] theorem o_neI {i j : Int} : neD (.int i) (.int j) = some (.sh (.bl (!decide (i = j)))) := rfl
@[simp] theorem o_eqB {i j : Bool} : eqD (.bl i) (.bl j) = some (.sh (.bl (decide (i = j)))) := rfl
@[simp] theorem o_neB {i j : Bool} : neD (.bl i) (.bl j) = some (.sh (.bl (!decide (i = j)))) := rfl
@[simp] theorem o_eqS {i j : Str} : eqD (.str i) (.str j) = some (.sh (.bl (decide (i = j)))) := rfl
@[simp] theorem o_neS {i j : Str} : neD (.str i) (.str j) = some (.sh (.bl (!decide (i = j)))) := rfl
theorem ok_lst {xs : List D} : (D.lst xs).ok = (purL xs && decide (depL xs + 1 ≤ 60)) := rfl
theorem eqB_deep {a b : D} (ha : a.ok = true) (hb : b.ok = true) : eqB a b = some (decide (a = b)) := by
  have h1 : a.pur = true := by simp [D.ok] at ha; exact ha.1
  have h2 : b.pur = true := by simp [D.ok] at hb; exact hb.1
  cases a <;> cases b <;> first | (simp [D.pur] at h1; done) | (simp [D.pur] at h2; done) | (simp only [eqB, ha, hb, Bool.and_self, if_true]; done) | (simp [eqB]; done)
theorem o_eqD {a b : D} (ha : a.ok = true) (hb : b.ok = true) : eqD a b = some (.sh (.bl (decide (a = b)))) := by rw [eqD, eqB_deep ha hb]; rfl
theorem o_neD {a b : D} (ha : a.ok = true) (hb : b.ok = true) : neD a b = some (.sh (.bl (!decide (a = b)))) := by rw [neD, eqB_deep ha hb]; rfl
/-- what may be compared deep down -/
theorem ok_of {a : D} (h1 : a.pur = true) (h2 : a.dep ≤ 60) : a.ok = true := by simp [D.ok, h1, h2]
theorem purL_map {α : Type} {f : α → D} {xs : List α} (h : ∀ x ∈ xs, (f x).pur = true) : purL (xs.map f) = true := by
  induction xs with
  | nil => rfl
  | cons x xs ih =>
    rw [List.map_cons]
    simp only [purL, h x (List.mem_cons_self ..), ih fun y hy => h y (List.mem_cons_of_mem _ hy), Bool.and_self]
theorem depL_map {α : Type} {f : α → D} {xs : List α} {n : Nat} (h : ∀ x ∈ xs, (f x).dep ≤ n) : depL (xs.map f) ≤ n := by
  induction xs with
  | nil => exact Nat.zero_le _
  | cons x xs ih =>
    rw [List.map_cons]
    simp only [depL]
    exact Nat.max_le.mpr ⟨h x (List.mem_cons_self ..), ih fun y hy => h y (List.mem_cons_of_mem _ hy)⟩
theorem ok_ints {ns : List Int} : (D.lst (ns.map .int)).ok = true := ok_of (by simp only [D.pur]; exact purL_map fun _ _ => rfl) (by simp only [D.dep]; have := depL_map (f := D.int) (xs := ns) (n := 0) (fun _ _ => Nat.le_refl 0); omega)
theorem ok_intsT {ns : List Int} : (D.tup (ns.map .int)).ok = true := ok_of (by simp only [D.pur]; exact purL_map fun _ _ => rfl) (by simp only [D.dep]; have := depL_map (f := D.int) (xs := ns) (n := 0) (fun _ _ => Nat.le_refl 0); omega)
theorem o_neSame {a : D} (h : a.ok = true) : neD a a = some (.sh (.bl false)) := by rw [o_neD h h]; simp
theorem o_eqSame {a : D} (h : a.ok = true) : eqD a a = some (.sh (.bl true)) := by rw [o_eqD h h]; simp
@[simp] theorem o_idxL {xs : List D} {i : Int} : idxD (.lst xs) (.int i) = (atI xs i).map .sh := rfl
@[simp] theorem o_idxT {xs : List D} {i : Int} : idxD (.tup xs) (.int i) = (atI xs i).map .sh := rfl
@[simp] theorem o_idxS {xs : List Int} {i : Int} : idxD (.scr xs) (.int i) = (atI xs i).map fun n => .sh (.int n) := rfl
theorem atI_map {α β : Type} {f : α → β} {xs : List α} {i : Int} : atI (xs.map f) i = (atI xs i).map f := by
  unfold atI
  rw [List.length_map]
  cases ixN xs.length i with
  | none => rfl
  | some j => simp
theorem atI_get {α : Type} {xs : List α} {i : Int} {x : α} (h0 : 0 ≤ i) (h : xs[i.toNat]? = some x) : atI xs i = some x := by
  obtain ⟨hl, _⟩ := List.getElem?_eq_some_iff.mp h
  unfold atI ixN
  rw [if_pos h0, if_pos (by omega)]
  exact h
theorem atI_nat {α : Type} {xs : List α} {i : Nat} : atI xs (i : Int) = xs[i]? := by
  unfold atI ixN
  rw [if_pos (by omega)]
  by_cases h : i < xs.length
  · rw [if_pos (by omega)]; rfl
  · rw [if_neg (by omega)]
    simp at h
    simp [h]
@[simp] theorem atI_0 {α : Type} {x : α} {xs : List α} : atI (x :: xs) 0 = some x := DL.atI_nat (i := 0)
@[simp] theorem atI_1 {α : Type} {x y : α} {xs : List α} : atI (x :: y :: xs) 1 = some y := DL.atI_nat (i := 1)
@[simp] theorem atI_2 {α : Type} {x y z : α} {xs : List α} : atI (x :: y :: z :: xs) 2 = some z := DL.atI_nat (i := 2)
@[simp] theorem atI_3 {α : Type} {x y z w : α} {xs : List α} : atI (x :: y :: z :: w :: xs) 3 = some w := DL.atI_nat (i := 3)
@[simp] theorem atI_4 {α : Type} {x y z w u : α} {xs : List α} : atI (x :: y :: z :: w :: u :: xs) 4 = some u := DL.atI_nat (i := 4)
@[simp] theorem o_lenL {xs : List D} : lenD [.lst xs] = some (.sh (.int xs.length)) := rfl
@[simp] theorem o_lenT {xs : List D} : lenD [.tup xs] = some (.sh (.int xs.length)) := rfl
@[simp] theorem o_lenS {xs : List Int} : lenD [.scr xs] = some (.sh (.int xs.length)) := rfl
@[simp] theorem o_listL {xs : List D} : listD [.lst xs] = some (.fr xs) := rfl
@[simp] theorem o_listT {xs : List D} : listD [.tup xs] = some (.fr xs) := rfl
@[simp] theorem o_tupL {xs : List D} : tupleD [.lst xs] = some (.sh (.tup xs)) := rfl
@[simp] theorem o_tupT {xs : List D} : tupleD [.tup xs] = some (.sh (.tup xs)) := rfl
theorem o_str {i : Int} (h : i.natAbs < 10 ^ 500) : strD [.int i] = some (.sh (.str (Str.ofString (toString i)))) := by
  show (if i.natAbs.log2 < 1920 then _ else _) = _
  rw [if_pos]
  by_cases h0 : i.natAbs = 0
  · rw [h0]; decide
  · exact (Nat.log2_lt h0).mpr (Nat.lt_trans h (by decide +kernel))

@[simp] theorem o_in2S {x a b : Str} : inD (.str x) (.tup [.str a, .str b]) = some (.sh (.bl (decide (x = a ∨ x = b)))) := by simp [inD, inB, flat]
@[simp] theorem o_nin4S {x a b c d : Str} : ninD (.str x) (.tup [.str a, .str b, .str c, .str d]) = some (.sh (.bl (!decide (x = a ∨ x = b ∨ x = c ∨ x = d)))) := by simp [ninD, inB, flat]
theorem mem_ints {i : Int} {xs : List Int} : D.int i ∈ xs.map D.int ↔ i ∈ xs := by simp
theorem o_inL {i : Int} {xs : List Int} : inD (.int i) (.lst (xs.map .int)) = some (.sh (.bl (decide (i ∈ xs)))) := by
  have h : (flat (.int i) && (xs.map D.int).all flat) = true := by simp [flat]
  simp only [inD, inB, h, if_true, Option.map_some, mem_ints]
@[simp] theorem o_isN1 : isND .non .non = some (.sh (.bl true)) := rfl
@[simp] theorem o_isN2 {i : Int} : isND (.int i) .non = some (.sh (.bl false)) := rfl
@[simp] theorem o_notN1 : notND .non .non = some (.sh (.bl false)) := rfl
@[simp] theorem o_notN2 {i : Int} : notND (.int i) .non = some (.sh (.bl true)) := rfl
/-! ### isinstance -/
@[simp] theorem is_bool_non  : isB "bool" (.non) = some false := by rfl
@[simp] theorem is_bool_bl {b : Bool} : isB "bool" (.bl b) = some true := by rfl
@[simp] theorem is_bool_int {i : Int} : isB "bool" (.int i) = some false := by rfl
@[simp] theorem is_bool_str {s : Str} : isB "bool" (.str s) = some false := by rfl
@[simp] theorem is_bool_lst {xs : List D} : isB "bool" (.lst xs) = some false := by rfl
@[simp] theorem is_bool_tup {xs : List D} : isB "bool" (.tup xs) = some false := by rfl
@[simp] theorem is_int_non  : isB "int" (.non) = some false := by rfl
@[simp] theorem is_int_bl {b : Bool} : isB "int" (.bl b) = some true := by rfl
@[simp] theorem is_int_int {i : Int} : isB "int" (.int i) = some true := by rfl
@[simp] theorem is_int_str {s : Str} : isB "int" (.str s) = some false := by rfl
@[simp] theorem is_int_lst {xs : List D} : isB "int" (.lst xs) = some false := by rfl
@[simp] theorem is_int_tup {xs : List D} : isB "int" (.tup xs) = some false := by rfl
@[simp] theorem is_str_non  : isB "str" (.non) = some false := by rfl
@[simp] theorem is_str_bl {b : Bool} : isB "str" (.bl b) = some false := by rfl
@[simp] theorem is_str_int {i : Int} : isB "str" (.int i) = some false := by rfl
@[simp] theorem is_str_str {s : Str} : isB "str" (.str s) = some true := by rfl
@[simp] theorem is_str_lst {xs : List D} : isB "str" (.lst xs) = some false := by rfl
@[simp] theorem is_str_tup {xs : List D} : isB "str" (.tup xs) = some false := by rfl
@[simp] theorem is_list_non  : isB "list" (.non) = some false := by rfl
@[simp] theorem is_list_bl {b : Bool} : isB "list" (.bl b) = some false := by rfl
@[simp] theorem is_list_int {i : Int} : isB "list" (.int i) = some false := by rfl
@[simp] theorem is_list_str {s : Str} : isB "list" (.str s) = some false := by rfl
@[simp] theorem is_list_lst {xs : List D} : isB "list" (.lst xs) = some true := by rfl
@[simp] theorem is_list_tup {xs : List D} : isB "list" (.tup xs) = some false := by rfl
@[simp] theorem is_tuple_non  : isB "tuple" (.non) = some false := by rfl
@[simp] theorem is_tuple_bl {b : Bool} : isB "tuple" (.bl b) = some false := by rfl
@[simp] theorem is_tuple_int {i : Int} : isB "tuple" (.int i) = some false := by rfl
@[simp] theorem is_tuple_str {s : Str} : isB "tuple" (.str s) = some false := by rfl
@[simp] theorem is_tuple_lst {xs : List D} : isB "tuple" (.lst xs) = some false := by rfl
@[simp] theorem is_tuple_tup {xs : List D} : isB "tuple" (.tup xs) = some true := by rfl
/-! ### loops -/
section
variable {ix : Nat} {body : M Fl} {ds : List D} {e : List Slot}
/-- a loop that runs to its end -/
theorem for_inv (I : Nat → List Slot → Prop) (h : ∀ i d e, ds[i]? = some d → I i e → ∃ e', (body (e.set ix (.sh d)) = .ok .nx e' ∨ body (e.set ix (.sh d)) = .ok .ct e') ∧ I (i + 1) e') (h0 : I 0 e) :
    ∃ e', forL ix body ds e = .ok .nx e' ∧ I ds.length e' := by
  induction ds generalizing e I with
  | nil => exact ⟨e, rfl, h0⟩
  | cons d ds ih =>
    obtain ⟨e1, q, h1⟩ := h 0 d e rfl h0
    obtain ⟨e2, q2, h2⟩ := ih (fun i e => I (i + 1) e) (fun i d' e' hd hI => h (i + 1) d' e' hd hI) h1
    refine ⟨e2, ?_, h2⟩
    rw [← q2]
    rcases q with q | q <;> simp only [forL, q]
/-- .. over typed data -/
theorem for_map {α : Type} {f : α → D} {xs : List α} (I : List α → List Slot → Prop) (h : ∀ l x e, x ∈ xs → l.length < xs.length → I l e → ∃ e', (body (e.set ix (.sh (f x))) = .ok .nx e' ∨ body (e.set ix (.sh (f x))) = .ok .ct e') ∧ I (l ++ [x]) e') (h0 : I [] e) :
    ∃ e', forL ix body (xs.map f) e = .ok .nx e' ∧ I xs e' := by
  have key : ∀ (r l : List α), (∀ x ∈ r, x ∈ xs) → l.length + r.length = xs.length → ∀ e, I l e → ∃ e', forL ix body (r.map f) e = .ok .nx e' ∧ I (l ++ r) e' := by
    intro r
    induction r with
    | nil => intro l _ _ e hI; exact ⟨e, rfl, by simpa using hI⟩
    | cons x r ih =>
      intro l hr hn e hI
      obtain ⟨e1, q, h1⟩ := h l x e (hr x (List.mem_cons_self ..)) (by simp at hn; omega) hI
      obtain ⟨e2, q2, h2⟩ := ih (l ++ [x]) (fun y hy => hr y (List.mem_cons_of_mem _ hy)) (by simp at hn ⊢; omega) e1 h1
      refine ⟨e2, ?_, by simpa using h2⟩
      rw [← q2, List.map_cons]
      rcases q with q | q <;> simp only [forL, q]
  simpa using key xs [] (fun _ h => h) (by simp) e h0
theorem rng_map {lo : Int} {n : Nat} : rngD lo n = (List.range n).map fun k : Nat => D.int (lo + k) := rfl
/-- a range loop: the k-th turn -/
theorem for_rng {lo : Int} {n : Nat} (I : Nat → List Slot → Prop) (h : ∀ k e, k < n → I k e → ∃ e', (body (e.set ix (.sh (.int (lo + k)))) = .ok .nx e' ∨ body (e.set ix (.sh (.int (lo + k)))) = .ok .ct e') ∧ I (k + 1) e') (h0 : I 0 e) :
    ∃ e', forL ix body (rngD lo n) e = .ok .nx e' ∧ I n e' := by
  have := for_inv (ix := ix) (body := body) (ds := rngD lo n) (e := e) I (fun i d e hd hI => by
    rw [rng_map, List.getElem?_map] at hd
    by_cases hi : i < n
    · rw [List.getElem?_range hi] at hd
      cases hd
      exact h i e hi hI
    · rw [List.getElem?_eq_none (by simpa using hi)] at hd
      cases hd) h0
  simpa [rng_map] using this
/-- goes on, and then Q -/
structure NxP (o : Out Fl) (Q : List Slot → Prop) : Prop where
  h : match o with
  | .ok .nx e => Q e
  | .ok .ct e => Q e
  | _ => False
@[simp] theorem nxp_nx {e : List Slot} {Q : List Slot → Prop} : NxP (.ok .nx e) Q ↔ Q e := ⟨fun z => z.1, fun z => ⟨z⟩⟩
@[simp] theorem nxp_ct {e : List Slot} {Q : List Slot → Prop} : NxP (.ok .ct e) Q ↔ Q e := ⟨fun z => z.1, fun z => ⟨z⟩⟩
theorem nxp_out {o : Out Fl} {Q : List Slot → Prop} (h : NxP o Q) : ∃ e', (o = .ok .nx e' ∨ o = .ok .ct e') ∧ Q e' := by
  have h := h.h
  split at h
  · exact ⟨_, .inl rfl, h⟩
  · exact ⟨_, .inr rfl, h⟩
  · exact h.elim
theorem for_invQ (I : Nat → List Slot → Prop) (h : ∀ i d e, ds[i]? = some d → I i e → ∀ Q : List Slot → Prop, (∀ e', I (i + 1) e' → Q e') → NxP (body (e.set ix (.sh d))) Q) (h0 : I 0 e) :
    ∃ e', forL ix body ds e = .ok .nx e' ∧ I ds.length e' := for_inv I (fun i d e hd hI => nxp_out (h i d e hd hI _ fun _ z => z)) h0
theorem for_mapQ {α : Type} {f : α → D} {xs : List α} (I : List α → List Slot → Prop) (h : ∀ l x e, x ∈ xs → l.length < xs.length → I l e → ∀ Q : List Slot → Prop, (∀ e', I (l ++ [x]) e' → Q e') → NxP (body (e.set ix (.sh (f x)))) Q) (h0 : I [] e) :
    ∃ e', forL ix body (xs.map f) e = .ok .nx e' ∧ I xs e' := for_map I (fun l x e hx hl hI => nxp_out (h l x e hx hl hI _ fun _ z => z)) h0
theorem for_rngQ {lo : Int} {n : Nat} (I : Nat → List Slot → Prop) (h : ∀ (k : Nat) e, k < n → I k e → ∀ Q : List Slot → Prop, (∀ e', I (k + 1) e' → Q e') → NxP (body (e.set ix (.sh (.int (lo + k))))) Q) (h0 : I 0 e) :
    ∃ e', forL ix body (rngD lo n) e = .ok .nx e' ∧ I n e' := for_rng I (fun k e hk hI => nxp_out (h k e hk hI _ fun _ z => z)) h0
/-- a comprehension over typed data -/
theorem comp_map {α β : Type} {t : M Bool} {f : M RV} {g : α → D} {g' : β → D} {p : α → Bool} {w : α → β} {xs : List α} (hl : xs.length < 100000)
    (ht : ∀ x ∈ xs, t (e.set ix (.sh (g x))) = .ok (p x) (e.set ix (.sh (g x))))
    (hf : ∀ x ∈ xs, p x = true → ∃ r, f (e.set ix (.sh (g x))) = .ok r (e.set ix (.sh (g x))) ∧ frzR (holdR r) (e.set ix (.sh (g x))) = .ok (g' (w x)) (e.set ix (.sh (g x))))
    (hix : e[ix]? = some .un) : compL ix t f (xs.map g) [] e = .ok (((xs.filter p).map w).map g') e := by
  have hset : ∀ s, (e.set ix s).set ix .un = e := by
    intro s
    rw [List.set_set]
    apply List.ext_getElem?
    intro i
    rw [List.getElem?_set]
    split
    · rename_i h
      subst h
      split
      · exact hix.symm
      · rename_i h2
        rw [List.getElem?_eq_none (by omega)] at hix
        cases hix
    · rfl
  have key : ∀ (r : List α) (acc : List D), (∀ x ∈ r, x ∈ xs) → acc.length + r.length < 100000 → compL ix t f (r.map g) acc e = .ok (acc ++ ((r.filter p).map w).map g') e := by
    intro r
    induction r with
    | nil => intro acc _ _; simp [compL]
    | cons x r ih =>
      intro acc hr hacc
      rw [List.map_cons]
      simp only [compL]
      rw [ht x (hr x (List.mem_cons_self ..))]
      cases hp : p x with
      | false =>
        simp only [hset]
        rw [ih acc (fun y hy => hr y (List.mem_cons_of_mem _ hy)) (by simp at hacc; omega)]
        simp [hp]
      | true =>
        obtain ⟨v, h1, h2⟩ := hf x (hr x (List.mem_cons_self ..)) hp
        simp only [e_bh, h1, h2]
        rw [if_pos (show gd (acc.length < 100000) from (show acc.length < 100000 by simp at hacc; omega)), hset, ih _ (fun y hy => hr y (List.mem_cons_of_mem _ hy)) (by simp at hacc ⊢; omega)]
        simp [hp]
  simpa using key xs [] (fun _ h => h) (by simpa using hl)
/-- .. without a test -/
theorem comp_all {α β : Type} {f : M RV} {g : α → D} {g' : β → D} {w : α → β} {xs : List α} (hl : xs.length < 100000)
    (hf : ∀ x ∈ xs, ∃ r, f (e.set ix (.sh (g x))) = .ok r (e.set ix (.sh (g x))) ∧ frzR (holdR r) (e.set ix (.sh (g x))) = .ok (g' (w x)) (e.set ix (.sh (g x))))
    (hix : e[ix]? = some .un) : compL ix yesT f (xs.map g) [] e = .ok ((xs.map w).map g') e := by
  have := comp_map (ix := ix) (t := yesT) (f := f) (e := e) (g := g) (g' := g') (p := fun _ => true) (w := w) (xs := xs) hl (fun _ _ => rfl) (fun x hx _ => hf x hx) hix
  rw [List.filter_eq_self.mpr (fun _ _ => rfl)] at this
  exact this
/-- a while loop: I m, m falls -/
theorem whileQ {t : M Bool} {I : Nat → List Slot → Prop} {P : List Slot → Prop} {m : Nat}
    (step : ∀ m e, I m e → (∃ e', t e = .ok false e' ∧ P e') ∨ ∃ e1, t e = .ok true e1 ∧ ∀ Q : List Slot → Prop, (∀ m' e', m' < m → I m' e' → Q e') → NxP (body e1) Q) (h0 : I m e) (hm : m < 1000000) : ∃ e', whileS t body e = .ok .nx e' ∧ P e' := by
  have key : ∀ n m e, m < n → I m e → ∃ e', whileN t body n e = .ok .nx e' ∧ P e' := by
    intro n
    induction n with
    | zero => intro m e h; omega
    | succ n ih =>
      intro m e hmn hI
      simp only [whileN, e_bnd]
      rcases step m e hI with ⟨e', q, p⟩ | ⟨e1, q, h⟩
      · rw [q]
        exact ⟨e', rfl, p⟩
      · rw [q]
        obtain ⟨e2, q2, m', hlt, hI'⟩ := nxp_out (h (fun e' => ∃ m', m' < m ∧ I m' e') fun m' e' h1 h2 => ⟨m', h1, h2⟩)
        obtain ⟨e3, q3, p3⟩ := ih m' e2 (by omega) hI'
        refine ⟨e3, ?_, p3⟩
        rw [← q3]
        rcases q2 with q2 | q2 <;> simp only [q2, if_true]
  exact key 1000000 m e hm h0
/-- a loop that looks for something and returns it -/
theorem for_find {α : Type} {f : α → D} {p : α → Bool} {r : α → RV} : ∀ (xs : List α) (e : List Slot), (∀ x ∈ xs, body (e.set ix (.sh (f x))) = if p x = true then .ok (.rt (r x)) (e.set ix (.sh (f x))) else .ok .nx (e.set ix (.sh (f x)))) →
    (∃ x, xs.find? p = some x ∧ forL ix body (xs.map f) e = .ok (.rt (r x)) (e.set ix (.sh (f x)))) ∨ (xs.find? p = none ∧ ∃ s, forL ix body (xs.map f) e = .ok .nx (e.set ix s))
  | [], e, _ => by
    refine .inr ⟨rfl, ?_⟩
    by_cases h : ix < e.length
    · exact ⟨e[ix], by rw [List.set_getElem_self]; rfl⟩
    · exact ⟨.un, by rw [List.set_eq_of_length_le (by omega)]; rfl⟩
  | x :: xs, e, h => by
    have hx := h x (List.mem_cons_self ..)
    cases hp : p x with
    | true =>
      rw [hp, if_pos rfl] at hx
      exact .inl ⟨x, by simp [hp], by rw [List.map_cons]; simp only [forL, hx]⟩
    | false =>
      rw [hp, if_neg (by simp)] at hx
      have := for_find (f := f) (p := p) (r := r) xs (e.set ix (.sh (f x))) fun y hy => by
        rw [List.set_set]
        exact h y (List.mem_cons_of_mem _ hy)
      rw [List.map_cons]
      simp only [forL, hx, List.find?_cons, hp]
      simpa [List.set_set] using this
/-- .. and may change what it keeps on the way -/
theorem for_some {α : Type} {f : α → D} {r : α → Option RV} {I : List Slot → Prop} : ∀ (xs : List α) (e : List Slot),
    (∀ x ∈ xs, ∀ e, I e → match r x with
      | some z => ∃ e', body (e.set ix (.sh (f x))) = .ok (.rt z) e'
      | none => ∃ e', (body (e.set ix (.sh (f x))) = .ok .nx e' ∨ body (e.set ix (.sh (f x))) = .ok .ct e') ∧ I e') → I e →
    match xs.findSome? r with
      | some z => ∃ e', forL ix body (xs.map f) e = .ok (.rt z) e'
      | none => ∃ e', forL ix body (xs.map f) e = .ok .nx e' ∧ I e'
  | [], e, _, h0 => ⟨e, rfl, h0⟩
  | x :: xs, e, h, h0 => by
    have hx := h x (List.mem_cons_self ..) e h0
    rw [List.map_cons]
    cases hr : r x with
    | some z =>
      rw [hr] at hx
      obtain ⟨e', q⟩ := hx
      simp only [List.findSome?_cons, hr]
      exact ⟨e', by simp only [forL, q]⟩
    | none =>
      rw [hr] at hx
      obtain ⟨e', q, hI⟩ := hx
      have := for_some xs e' (fun y hy => h y (List.mem_cons_of_mem _ hy)) hI
      simp only [List.findSome?_cons, hr]
      rcases q with q | q <;> simp only [forL, q] <;> exact this
end
end DL
set_option Elab.async false
set_option linter.all false
set_option maxRecDepth 100000
set_option maxHeartbeats 1000000
noncomputable section
namespace DL
open PySem PySem.Spec L2
open PyProof.Rows hiding St
set_option autoImplicit false
/-! ### evaluation of what came later -/
@[simp] theorem e_index {fo fb : M RV} {e : List Slot} : indexE fo fb e = match fo e with
  | .ok r1 e1 => (match der e1 (holdR r1) with
    | some (.lst _) => (match fb e1 with
      | .ok r e2 => appD ((der e2 (holdR r1)).bind fun d1 => (derL e2 [holdR r]).bind fun ds => indexD d1 ds) e2
      | .ex c fs e' => .ex c fs e'
      | .st => .st)
    | _ => .st)
  | .ex c fs e' => .ex c fs e'
  | .st => .st := by
  unfold indexE
  (rw [e_bh]) <;> (
  cases fo e with
  | ok r1 e1 =>
    (dsimp only) <;> (
    cases der e1 (holdR r1) with
    | none => rfl
    | some d =>
      cases d with
      | lst xs =>
        (dsimp only) <;> (
        (rw [e_bnd, e_argsC]) <;> (
        cases fb e1 with
        | ok r e2 => (dsimp only) <;> (rw [e_argsN])
        | _ => rfl))
      | _ => rfl)
  | _ => rfl)
@[simp] theorem e_callUB {g : List D → FOut} {fs : List (M RV)} {e : List Slot} : callUB g fs e = match argsM fs e with
  | .ok rs e' => (match frzL rs e' with
    | .ok ds _ => (match g ds with
      | .ok (.sh d) => if scal d = true then .ok (.sh d) e' else .st
      | .ex c none => .ex c none e'
      | _ => .st)
    | _ => .st)
  | .ex c fs e' => .ex c fs e'
  | .st => .st := by
  unfold callUB
  (rw [e_bnd]) <;> (
  cases argsM fs e with
  | ok rs e' =>
    (dsimp only) <;> (
    cases frzL rs e' with
    | ok ds e2 =>
      (dsimp only) <;> (
      cases g ds with
      | ok r => cases r <;> rfl
      | ex c f => cases f <;> rfl
      | st => rfl)
    | _ => rfl)
  | _ => rfl)
@[simp] theorem scal_bl {b : Bool} : scal (.bl b) = true := rfl
@[simp] theorem scal_int {b : Int} : scal (.int b) = true := rfl
@[simp] theorem scal_non : scal .non = true := rfl
theorem ixN_nat {n i : Nat} (h : i < n) : ixN n (i : Int) = some i := by
  unfold ixN
  rw [if_pos (by omega), if_pos (by omega)]
  rfl
theorem slc_take {xs : List D} {j : Nat} (h : j ≤ xs.length) : slcD none (some (j : Int)) (.lst xs) = some (.fr (xs.take j)) := by
  show some (RV.fr _) = _
  rw [HT.sIx_nat, HT.sIx_none, List.drop_zero]
  congr 3
  omega
theorem slc_takeT {xs : List D} {j : Nat} (h : j ≤ xs.length) : slcD none (some (j : Int)) (.tup xs) = some (.sh (.tup (xs.take j))) := by
  show some (RV.sh _) = _
  rw [HT.sIx_nat, HT.sIx_none, List.drop_zero]
  congr 4
  omega
@[simp] theorem e_raiC {fs : List (M RV)} {e : List Slot} : raiC fs e = match argsM fs e with
  | .ok rs e' => (match frzL rs e' with
    | .ok ds e'' => (match ds with
      | [a, b, c] => .ex "Clash" (some [("second", c), ("first", b), ("events", a)]) e''
      | _ => .st)
    | .ex c fs e' => .ex c fs e'
    | .st => .st)
  | .ex c fs e' => .ex c fs e'
  | .st => .st := by
  unfold raiC
  (rw [e_bnd]) <;> (
  cases argsM fs e with
  | ok a e' =>
    (dsimp only) <;> (
    (rw [e_bnd]) <;> (
    cases frzL a e' <;> rfl))
  | _ => rfl)
@[simp] theorem e_xf {f : Str} {i : Nat} {e : List Slot} : xfE f i e = match e[i]? with
  | some (.ex c fs) => if c = "Clash" then (match fs.lookup f with
    | some d => .ok (.sh d) e
    | none => .st) else .st
  | _ => .st := rfl
@[simp] theorem e_isx {t : Str} {i : Nat} {e : List Slot} : isxE t i e = match e[i]? with
  | some (.ex c []) => if c = "BadChart" ∨ c = "TooMany" then .ok (.sh (.bl (isSub c t))) e else .st
  | some (.ex c (q :: r)) => if c = "Clash" ∧ (q :: r).lookup ("__class__" : Str) = none then .ok (.sh (.bl (isSub c t))) e else .st
  | _ => .st := rfl
@[simp] theorem e_tryA {t : Str} {i : Nat} {body suite : M Fl} {e : List Slot} : tryA t i body suite e = match body e with
  | .ex c fs e' => if (known c && okF fs) = true then (if isSub c t = true then (match suite (e'.set i (.ex c (fs.getD []))) with
    | .ok .nx e2 => .ok .nx ((e2.set i .un).map unx)
    | _ => .st) else .ex c fs e') else .st
  | o => o := rfl
@[simp] theorem e_tryM {body : M Fl} {hs : List (Str × M Fl)} {e : List Slot} : tryM body hs e = match body e with
  | .ex c fs e' => catchM hs c fs e'
  | o => o := rfl
@[simp] theorem e_catN {c : Str} {fs : Option Fds} {e : List Slot} : catchM [] c fs e = .ex c fs e := rfl
@[simp] theorem e_catC {t c : Str} {s : M Fl} {r : List (Str × M Fl)} {fs : Option Fds} {e : List Slot} : catchM ((t, s) :: r) c fs e = if known c = true then (if isSub c t = true then (match s e with
    | .ok .nx e2 => .ok .nx (e2.map unx)
    | _ => .st) else catchM r c fs e) else .st := rfl
@[simp] theorem unx_un : unx .un = .un := rfl
@[simp] theorem unx_sh {d : D} : unx (.sh d) = .sh d := rfl
@[simp] theorem unx_ow {d : List D} : unx (.ow d) = .ow d := rfl
@[simp] theorem known_1 : known "BadChart" = true := by decide
@[simp] theorem known_2 : known "TooMany" = true := by decide
@[simp] theorem known_3 : known "Clash" = true := by decide
@[simp] theorem okF_n : okF none = true := rfl
@[simp] theorem okF_c {q : Str × D} {r : Fds} : okF (some (q :: r)) = true := rfl
@[simp] theorem sub_BadChart_BadChart : isSub "BadChart" "BadChart" = true := by decide
@[simp] theorem sub_BadChart_TooMany : isSub "BadChart" "TooMany" = false := by decide
@[simp] theorem sub_BadChart_Clash : isSub "BadChart" "Clash" = false := by decide
@[simp] theorem sub_BadChart_ChartError : isSub "BadChart" "ChartError" = true := by decide
@[simp] theorem sub_BadChart_ValueError : isSub "BadChart" "ValueError" = true := by decide
@[simp] theorem sub_TooMany_BadChart : isSub "TooMany" "BadChart" = false := by decide
@[simp] theorem sub_TooMany_TooMany : isSub "TooMany" "TooMany" = true := by decide
@[simp] theorem sub_TooMany_Clash : isSub "TooMany" "Clash" = false := by decide
@[simp] theorem sub_TooMany_ChartError : isSub "TooMany" "ChartError" = true := by decide
@[simp] theorem sub_TooMany_ValueError : isSub "TooMany" "ValueError" = true := by decide
@[simp] theorem sub_Clash_BadChart : isSub "Clash" "BadChart" = false := by decide
@[simp] theorem sub_Clash_TooMany : isSub "Clash" "TooMany" = false := by decide
@[simp] theorem sub_Clash_Clash : isSub "Clash" "Clash" = true := by decide
@[simp] theorem sub_Clash_ChartError : isSub "Clash" "ChartError" = true := by decide
@[simp] theorem sub_Clash_ValueError : isSub "Clash" "ValueError" = true := by decide
@[simp] theorem lk_ev {a b c : D} : List.lookup ("events" : Str) [(("second" : Str), c), ("first", b), ("events", a)] = some a := rfl
@[simp] theorem lk_fi {a b c : D} : List.lookup ("first" : Str) [(("second" : Str), c), ("first", b), ("events", a)] = some b := rfl
@[simp] theorem lk_se {a b c : D} : List.lookup ("second" : Str) [(("second" : Str), c), ("first", b), ("events", a)] = some c := rfl
@[simp] theorem lk_cl {a b c : D} : List.lookup ("__class__" : Str) [(("second" : Str), c), ("first", b), ("events", a)] = none := rfl
/-- a loop over typed data, what is ahead and what is left known -/
theorem for_mapP {ix : Nat} {body : M Fl} {e : List Slot} {α : Type} {f : α → D} {xs : List α} (I : List α → List Slot → Prop) (h : ∀ l x r e, xs = l ++ x :: r → I l e → ∀ Q : List Slot → Prop, (∀ e', I (l ++ [x]) e' → Q e') → NxP (body (e.set ix (.sh (f x)))) Q) (h0 : I [] e) :
    ∃ e', forL ix body (xs.map f) e = .ok .nx e' ∧ I xs e' := by
  have key : ∀ (r l : List α), xs = l ++ r → ∀ e, I l e → ∃ e', forL ix body (r.map f) e = .ok .nx e' ∧ I xs e' := by
    intro r
    induction r with
    | nil => intro l hx e hI; exact ⟨e, rfl, by rw [hx, List.append_nil]; exact hI⟩
    | cons x r ih =>
      intro l hx e hI
      obtain ⟨e1, q, h1⟩ := nxp_out (h l x r e hx hI _ fun _ z => z)
      obtain ⟨e2, q2, h2⟩ := ih (l ++ [x]) (by rw [hx]; simp) e1 h1
      refine ⟨e2, ?_, h2⟩
      rw [← q2, List.map_cons]
      rcases q with q | q <;> simp only [forL, q]
  exact key xs [] rfl e h0
/-- goes on by the end of the block, and then Q -/
structure NxO (o : Out Fl) (Q : List Slot → Prop) : Prop where
  h : match o with
  | .ok .nx e => Q e
  | _ => False
@[simp] theorem nxo_nx {e : List Slot} {Q : List Slot → Prop} : NxO (.ok .nx e) Q ↔ Q e := ⟨fun z => z.1, fun z => ⟨z⟩⟩
theorem nxo_out {o : Out Fl} {Q : List Slot → Prop} (h : NxO o Q) : ∃ e', o = .ok .nx e' ∧ Q e' := by
  have h := h.h
  split at h
  · exact ⟨_, rfl, h⟩
  · exact h.elim
/-- ends by an error or a return, and then Q -/
structure ExO (o : Out Fl) (c : Str) (fs : Fds) : Prop where
  h : match o with
  | .ex c' fs' _ => c' = c ∧ fs' = some fs
  | _ => False
@[simp] theorem exo_ex {c c' : Str} {fs fs' : Fds} {e : List Slot} : ExO (.ex c' (some fs') e) c fs ↔ c' = c ∧ fs' = fs := ⟨fun z => ⟨z.1.1, Option.some.inj z.1.2⟩, fun z => ⟨z.1, congrArg some z.2⟩⟩
theorem exo_out {o : Out Fl} {c : Str} {fs : Fds} (h : ExO o c fs) : ∃ e', o = .ex c (some fs) e' := by
  have h := h.h
  split at h
  · obtain ⟨rfl, rfl⟩ := h; exact ⟨_, rfl⟩
  · exact h.elim
structure RtO (o : Out Fl) (r : RV) : Prop where
  h : match o with
  | .ok (.rt r') _ => r' = r
  | _ => False
@[simp] theorem rto_rt {r r' : RV} {e : List Slot} : RtO (.ok (.rt r') e) r ↔ r' = r := ⟨fun z => z.1, fun z => ⟨z⟩⟩
theorem rto_out {o : Out Fl} {r : RV} (h : RtO o r) : ∃ e', o = .ok (.rt r) e' := by
  have h := h.h
  split at h
  · subst h; exact ⟨_, rfl⟩
  · exact h.elim
end DL
set_option Elab.async false
set_option linter.all false
set_option maxRecDepth 100000
set_option maxHeartbeats 1000000
noncomputable section
namespace DL
open PySem PySem.Spec L2
open PyProof.Rows hiding St
set_option autoImplicit false

/-! ### what is asked of a caught error -/
structure XfI (G : Gb) (f : Str) : Prop where
  ex : ∃ C, G.mg "Clash" = some (.ref C) ∧ XfC G.K C ∧ PySem.W.findIn G.K (.ref C) f = some none
/-- what isinstance asks of the classes of errors -/
structure IsX (G : Gb) (t : Str) (cv : Value) : Prop where
  bare : ∀ (c : Str) (C : Addr), (c = "BadChart" ∨ c = "TooMany") → G.mg c = some (.ref C) → ExcC G.K C ∧ PySem.W.kitOne G.K (.ref C) cv = some (isSub c t)
section
variable {G : Gb} {c : Cp} {xa : XA} {fx : List Nat} {W : WX} {B : Bs} {F H F' H' F1 : Hp} {σ : St} {e : List Slot} {X : Cx} {pos : Pos} {a : Expr}
theorem _root_.DL.RpF.lookup_none : ∀ {fs : List (Str × D)} {vs : List (Str × V)} {f : Str}, RpF G F fs vs → fs.lookup f = none → vs.lookup f = none
  | _, _, _, .nil, _ => rfl
  | _, _, f, .cons (f := g) r t, h => by
    rw [List.lookup_cons] at h ⊢
    cases e : (f == g) with
    | true => rw [e] at h; cases h
    | false => rw [e] at h; exact RpF.lookup_none t h
theorem pe_no {X : Cx} {e : Expr} : PE X e (fun _ _ _ => False) := ⟨fun _ _ _ _ _ _ q => q.elim⟩
theorem slot_at (o : Ok G xa fx B F H σ e) {i : Nat} {s : Slot} (h : e[i]? = some s) : ∃ w, σ[i]? = some w ∧ SlotOk G xa fx B F H i w s := by
  have hl : i < σ.length := by rw [o.len]; exact (List.getElem?_eq_some_iff.mp h).1
  exact ⟨σ[i], List.getElem?_eq_getElem hl, o.sl i s _ h (List.getElem?_eq_getElem hl)⟩
theorem de_xf {f n : Str} {i : Nat} {p : Pos} (T : XfI G f) (h : chkV c i n = true) : DE G c (.Attribute (.Name n p) f pos) (xfE f i) := fun X xa gd W tk => by
  obtain ⟨C, gC, xC, hno⟩ := T.ex
  have hv : c.N[i]? = some n ∧ visB c.sc n = true := by simpa [chkV] using h
  have key : ∀ {σ H Q}, rdE G xa c.fx W (xfE f i) σ H Q → ∃ a d dd vfs v, xa = some (a, .ref C, d) ∧ σ[i]? = some (some (.ref a)) ∧ d = some dd ∧ H dd = some (.xd vfs) ∧ vfs.lookup f = some v ∧ Q v H := by
    rintro σ H Q ⟨B, F, e, o, pp⟩
    unfold xfE at pp
    cases he : e[i]? with
    | none => rw [he] at pp; exact pp.elim
    | some s =>
      rw [he] at pp
      cases s with
      | ex cn fs =>
        dsimp only at pp
        by_cases hc : cn = "Clash"
        · rw [if_pos hc] at pp
          subst hc
          cases hl : fs.lookup f with
          | none => rw [hl] at pp; exact pp.elim
          | some d0 =>
            rw [hl] at pp
            obtain ⟨w, hw, a, C', d, ex, ew, m, hx⟩ := slot_at o he
            rw [gC] at m
            cases m
            rcases hx with ⟨z, _⟩ | ⟨dd, vfs, h1, h2, h3, _⟩
            · subst z; cases hl
            · obtain ⟨v, l1, l2⟩ := h3.lookup hl
              subst ew
              exact ⟨a, d, dd, vfs, v, ex, hw, h1, o.same _ _ h2, l1, pp F H (Same.refl _) o v l2⟩
        · rw [if_neg hc] at pp; exact pp.elim
      | un => exact pp.elim
      | sh _ => exact pp.elim
      | ow _ => exact pp.elim
      | ob _ _ => exact pp.elim
  cases xa with
  | none => exact PE.weak pe_no fun σ H Q h => by obtain ⟨_, _, _, _, _, z, _⟩ := key h; cases z
  | some q =>
    obtain ⟨a, cls, d⟩ := q
    obtain ⟨X0, oe, pn, rfl, hz, hf⟩ := gd.hx a cls d rfl
    have hN : (X0.suite a ((a, oe) :: pn)).N[i]? = some n := by rw [gd.hN]; exact hv.1
    have hV : Vis (X0.suite a ((a, oe) :: pn)).env.scope n := by rw [gd.sc]; exact (visB_ok hv.2).1
    have eK : X0.K = G.K := gd.K
    refine PE.weak (pe_xf (X := X0) (C := C) (by rw [eK]; exact xC) (by rw [eK]; exact hno) hz hf (pe_var hN hV (visB_ok hv.2).2.1 (visB_ok hv.2).2.2)) fun σ H Q h => ?_
    obtain ⟨a', d', dd, vfs, v, ex, hw, h1, h2, h3, h4⟩ := key h
    cases ex
    exact ⟨_, hw, rfl, rfl, dd, vfs, v, h1, h2, h3, h4⟩
/-- isinstance(e, T): a name that stands for a class -/
theorem de_isx {t n : Str} {i : Nat} {p p2 p3 : Pos} {cv : Value} {tv : V} (T : IsX G t cv) (hcl : ∀ C, G.mg "Clash" = some (.ref C) → ∀ (X : Cx) a d oe pn, X.K = G.K → Zc (.ref C) (some d) oe → (∃ vs, oe.data = .fields vs) → CallR (X.suite a ((a, oe) :: pn)) (.builtin "isinstance") (fun xs H Q => ∃ (c : V) (fs : List (Str × V)), xs = [.ref a, c] ∧ (∀ u, RelV c u → u = cv) ∧ H d = some (.xd fs) ∧ fs.lookup ("__class__" : Str) = none ∧ Q (.bl (isSub "Clash" t)) H))
    (hN : chkV c i n = true) (h : chkG c "isinstance" = true) (hm : G.mg "isinstance" = none) (ht : ∀ X xa, Good G c xa X → PE X (.Name t p2) (tC tv)) (rv : ∀ u, RelV tv u → u = cv) :
    DE G c (.Call (.Name "isinstance" p) [.Name n p3, .Name t p2] [] pos) (isxE t i) := fun X xa gd W tk => by
  obtain ⟨g1, g2, g3⟩ := chkG_ok h gd
  have hv : c.N[i]? = some n ∧ visB c.sc n = true := by simpa [chkV] using hN
  have key : ∀ {σ H Q}, rdE G xa c.fx W (isxE t i) σ H Q → ∃ a C d, xa = some (a, .ref C, d) ∧ σ[i]? = some (some (.ref a)) ∧
      ((∃ cn : Str, (cn = "BadChart" ∨ cn = "TooMany") ∧ G.mg cn = some (.ref C) ∧ d = none ∧ Q (.bl (isSub cn t)) H) ∨ (G.mg "Clash" = some (.ref C) ∧ ∃ dd vfs, d = some dd ∧ H dd = some (.xd vfs) ∧ (vfs.lookup ("__class__" : Str) = none) ∧ Q (.bl (isSub "Clash" t)) H)) := by
    rintro σ H Q ⟨B, F, e, o, pp⟩
    unfold isxE at pp
    cases he : e[i]? with
    | none => rw [he] at pp; exact pp.elim
    | some s =>
      rw [he] at pp
      cases s with
      | ex cn fs =>
        obtain ⟨w, hw, a, C', d, ex, ew, m, hx⟩ := slot_at o he
        subst ew
        refine ⟨a, C', d, ex, hw, ?_⟩
        cases fs with
        | nil =>
          dsimp only at pp
          by_cases hc : cn = "BadChart" ∨ cn = "TooMany"
          · rw [if_pos hc] at pp
            rcases hx with ⟨_, z⟩ | ⟨_, _, _, _, _, z⟩
            · exact .inl ⟨cn, hc, m, z, pp F H (Same.refl _) o _ (.bl _)⟩
            · exact absurd rfl z
          · rw [if_neg hc] at pp; exact pp.elim
        | cons q r =>
          dsimp only at pp
          by_cases hc : cn = "Clash" ∧ (q :: r).lookup ("__class__" : Str) = none
          · rw [if_pos hc] at pp
            obtain ⟨rfl, hl⟩ := hc
            rcases hx with ⟨z, _⟩ | ⟨dd, vfs, h1, h2, h3, _⟩
            · cases z
            · refine .inr ⟨m, dd, vfs, h1, o.same _ _ h2, ?_, pp F H (Same.refl _) o _ (.bl _)⟩
              exact h3.lookup_none hl
          · rw [if_neg hc] at pp; exact pp.elim
      | un => exact pp.elim
      | sh _ => exact pp.elim
      | ow _ => exact pp.elim
      | ob _ _ => exact pp.elim
  cases xa with
  | none => exact PE.weak pe_no fun σ H Q h => by obtain ⟨_, _, _, z, _⟩ := key h; cases z
  | some q =>
    obtain ⟨a, cls, d⟩ := q
    have gd0 := gd
    obtain ⟨X0, oe, pn, rfl, hz, hf⟩ := gd.hx a cls d rfl
    have hNN : (X0.suite a ((a, oe) :: pn)).N[i]? = some n := by rw [gd.hN]; exact hv.1
    have hV : Vis (X0.suite a ((a, oe) :: pn)).env.scope n := by rw [gd.sc]; exact (visB_ok hv.2).1
    have eK : X0.K = G.K := gd.K
    have eM : (X0.suite a ((a, oe) :: pn)).mg "isinstance" = none := by rw [gd.mg]; exact hm
    have pa : PA (X0.suite a ((a, oe) :: pn)) [.Name n p3, .Name t p2] (tCons (tVar i) (tCons (tC tv) tNil)) := pa_cons (pe_var hNN hV (visB_ok hv.2).2.1 (visB_ok hv.2).2.2) (pa_cons (ht _ _ gd0) pa_nil)
    by_cases hd : ∃ D, cls = .ref D ∧ d = none ∧ ∃ cn : Str, (cn = "BadChart" ∨ cn = "TooMany") ∧ G.mg cn = some (.ref D)
    · obtain ⟨D, rfl, rfl, cn, hc, hg⟩ := hd
      obtain ⟨x1, x2⟩ := T.bare cn D hc hg
      refine PE.weak (pe_callB (call_isE (X := X0) (a := a) (pn := pn) (D := D) (by rw [eK]; exact x1) hz hf) g1 eM boot_isi pa g3 g2) fun σ H Q h => ?_
      obtain ⟨a', C, d', ex, hw, h2⟩ := key h
      cases ex
      refine ⟨_, hw, ?_⟩
      rcases h2 with ⟨cn', hc', hg', _, q⟩ | ⟨_, dd, _, z, _⟩
      · obtain ⟨_, y2⟩ := T.bare cn' D hc' hg'
        exact ⟨tv, cv, _, rfl, rv, by rw [eK]; exact y2, q⟩
      · cases z
    · by_cases hd2 : ∃ D dd, cls = .ref D ∧ d = some dd ∧ G.mg "Clash" = some (.ref D)
      · obtain ⟨D, dd, rfl, rfl, hg⟩ := hd2
        refine PE.weak (pe_callB (hcl D hg X0 a dd oe pn eK hz hf) g1 eM boot_isi pa g3 g2) fun σ H Q h => ?_
        obtain ⟨a', C, d', ex, hw, h2⟩ := key h
        cases ex
        refine ⟨_, hw, ?_⟩
        rcases h2 with ⟨cn', _, _, z, _⟩ | ⟨_, dd', vfs, z, h3, h4, q⟩
        · cases z
        · cases z
          exact ⟨tv, vfs, rfl, rv, h3, h4, q⟩
      · refine PE.weak pe_no fun σ H Q h => ?_
        obtain ⟨a', C, d', ex, hw, h2⟩ := key h
        cases ex
        rcases h2 with ⟨cn', hc', hg', z, _⟩ | ⟨hg, dd, _, z, _⟩
        · exact hd ⟨C, rfl, z, cn', hc', hg'⟩
        · exact hd2 ⟨C, dd, rfl, z, hg⟩
end
/-! ### from what the top has left -/
/-- a class object taken apart -/
def clsParts (o : Obj) : Option (ClassData × List (Option Value)) := match o.data with
  | .cls cd => if o.cls = .type "type" then some (cd, o.slots.toList) else none
  | _ => none
theorem clsParts_ok {o : Obj} {cd : ClassData} {l : List (Option Value)} (h : clsParts o = some (cd, l)) : o = ⟨.type "type", o.dict, .cls cd, ⟨l⟩⟩ := by
  rcases o with ⟨c, dd, dt, ⟨sl⟩⟩
  unfold clsParts at h
  cases dt with
  | cls cd2 =>
    by_cases e : c = .type "type"
    · subst e; cases h; rfl
    · dsimp only at h; rw [if_neg e] at h; cases h
  | _ => cases h
/-- a class of our own over ValueError -/
def overVE (C : Addr) : ClassData × List (Option Value) → Bool
  | (⟨_, _, .ref C2 :: bm, _, _, dict, _, _, _, _, hasDel⟩, [_, _, _, _, some (.builtin new), _]) => decide (C2 = C) && (decide (new = "ValueError.__new__") && (!hasDel && (dict && PySem.HandSPX.refsVE bm)))
  | _ => false
def oexB (K : PySem.W.Frag) (C f : Addr) : Bool := ((K.lookup C).bind clsParts).any (overVE C) && (decide (PySem.W.findIn K (.ref C) "__setattr__" = some (some (.builtin "object.__setattr__"))) && (decide (PySem.W.subIn K (.ref C) (.type "BaseException") = some true) && (decide (PySem.W.typeIn K (.ref C) = some (.type "type")) && (PySem.W.keepIn K (.ref C) &&
    (decide (PySem.W.findIn K (.ref C) "__init__" = some (some (.ref f))) && (decide (PySem.W.typeIn K (.ref f) = some (.type "function")) && (decide (PySem.W.findIn K (.ref C) "events" = some none) && (decide (PySem.W.findIn K (.ref C) "first" = some none) && decide (PySem.W.findIn K (.ref C) "second" = some none)))))))))
theorem oexB_ok {K : PySem.W.Frag} {C f : Addr} (h : oexB K C f = true) : OexC K C ∧ PySem.W.findIn K (.ref C) "__init__" = some (some (.ref f)) ∧ PySem.W.typeIn K (.ref f) = some (.type "function") ∧
    PySem.W.findIn K (.ref C) "events" = some none ∧ PySem.W.findIn K (.ref C) "first" = some none ∧ PySem.W.findIn K (.ref C) "second" = some none := by
  rw [oexB] at h
  repeat rw [Bool.and_eq_true] at h
  obtain ⟨made, h1, h2, h3, h4, h5, h6, h7, h8, h9⟩ := h
  refine ⟨⟨?_, of_decide_eq_true h1, of_decide_eq_true h2, of_decide_eq_true h3, h4⟩, of_decide_eq_true h5, of_decide_eq_true h6, of_decide_eq_true h7, of_decide_eq_true h8, of_decide_eq_true h9⟩
  obtain ⟨⟨cd, l⟩, there, over⟩ := PySem.W.any_some made
  obtain ⟨o, lk, apart⟩ := Option.bind_eq_some_iff.mp there
  rw [clsParts_ok apart] at lk
  unfold overVE at over
  split at over
  · next z =>
    cases z
    repeat rw [Bool.and_eq_true] at over
    obtain ⟨c2, nw, del, dct, refs⟩ := over
    cases of_decide_eq_true c2
    cases of_decide_eq_true nw
    rw [Bool.not_eq_true'] at del
    subst del dct
    exact ⟨_, _, _, _, _, _, _, _, _, _, _, _, _, _, _, lk, refs⟩
  · cases over
theorem cl_of {G : Gb} {d : He.DefD} {C : Addr} {p1 p2 p3 p4 p5 p6 p7 p8 p9 p10 p11 p12 : Pos} (hd : Has G d) (gC : G.mg "Clash" = some (.ref C)) (o : oexB G.K C (He.fAd G.K d.at_) = true) (S : FnScope NC NC d.scope) (hv : NC.all (visB d.scope) = true)
    (hb : ∀ (kV doc pm : Value) (an : Option Addr) (cdv ct : Value) (us : List Value), us.length = NC.length → bindArgs (PySem.W.fnOf d.name d.qual d.params d.body d.scope .none kV doc pm an cdv ct) ⟨us, []⟩ = pure (NC.zip us))
    (hbody : d.body = [.Assign [.Attribute (.Name "self" p1) "events" p2] (.Name "events" p3) p4, .Assign [.Attribute (.Name "self" p5) "first" p6] (.Name "first" p7) p8, .Assign [.Attribute (.Name "self" p9) "second" p10] (.Name "second" p11) p12]) : ClI G := by
  obtain ⟨fd, Fd⟩ := hd
  obtain ⟨o1, o2, o3, o4, o5, o6⟩ := oexB_ok o
  refine ⟨⟨C, _, fd, gC, o1, o2, o3, o4, o5, o6, Fd.bindsN (fun kV doc pm an cdv ct us hl => hb kV doc pm an cdv ct us hl), ?_⟩⟩
  rw [hbody] at Fd
  exact fn_clash Fd S hv
theorem nm_y {G : Gb} {x t : Str} {C1 Ct : Addr} (g1 : G.mg x = some (.ref C1)) (e1 : PySem.W.exmOne G.K (.ref C1) (.ref Ct) = some (isSub x t)) : ∀ C, G.mg x = some (.ref C) → PySem.W.exmOne G.K (.ref C) (.ref Ct) = some (isSub x t) := fun C hm => by
  rw [g1] at hm; cases hm; exact e1
theorem nm_n {G : Gb} {x t : Str} {Ct : Addr} (g1 : G.mg x = none) : ∀ C, G.mg x = some (.ref C) → PySem.W.exmOne G.K (.ref C) (.ref Ct) = some (isSub x t) := fun C hm => by
  rw [g1] at hm; cases hm
theorem nm_of {G : Gb} {t : Str} {Ct : Addr} (gt : G.mg t = some (.ref Ct)) (e1 : ∀ C, G.mg "BadChart" = some (.ref C) → PySem.W.exmOne G.K (.ref C) (.ref Ct) = some (isSub "BadChart" t))
    (e2 : ∀ C, G.mg "TooMany" = some (.ref C) → PySem.W.exmOne G.K (.ref C) (.ref Ct) = some (isSub "TooMany" t)) (e3 : ∀ C, G.mg "Clash" = some (.ref C) → PySem.W.exmOne G.K (.ref C) (.ref Ct) = some (isSub "Clash" t)) : Nm G t := by
  refine ⟨⟨_, gt, fun c C hk hm => ?_⟩⟩
  simp only [known, Bool.or_eq_true, decide_eq_true_eq] at hk
  rcases hk with rfl | rfl | rfl
  · exact e1 C hm
  · exact e2 C hm
  · exact e3 C hm
theorem xfi_of {G : Gb} {f : Str} {C : Addr} (gC : G.mg "Clash" = some (.ref C)) (h : xfB G.K C = true) (n : PySem.W.findIn G.K (.ref C) f = some none) : XfI G f := ⟨⟨C, gC, xfB_ok h, n⟩⟩
end DL
set_option Elab.async false
set_option linter.all false
set_option maxRecDepth 100000
set_option maxHeartbeats 1000000
noncomputable section
namespace DL
open PySem PySem.Spec L2
open PyProof.Rows hiding St
set_option autoImplicit false

/-! ### a call that is lent what a name owns, and gives it back changed -/
inductive AR where
  | sh (d : D) | ow (i : Nat)
def frzO : List Bool → List RV → M (List AR)
  | [], [] => fun e => .ok [] e
  | true :: os, .bo i :: rs => bnd (frzO os rs) fun as => fun e => .ok (.ow i :: as) e
  | false :: os, r :: rs => bnd (frzR r) fun d => bnd (frzO os rs) fun as => fun e => .ok (.sh d :: as) e
  | _, _ => fun _ => .st
def slO (e : List Slot) : AR → Slot
  | .sh d => .sh d
  | .ow i => match e[i]? with
    | some (.ow xs) => .ow xs
    | _ => .un
def okO (e : List Slot) : AR → Bool
  | .sh _ => true
  | .ow i => match e[i]? with
    | some (.ow _) => true
    | _ => false
def ixO : List AR → List Nat
  | [] => []
  | .sh _ :: as => ixO as
  | .ow i :: as => i :: ixO as
/-- what is given back: e' the callee's names, from place p on -/
def backO (e' : List Slot) : List AR → Nat → List Slot → Option (List Slot)
  | [], _, e => some e
  | .sh _ :: as, p, e => backO e' as (p + 1) e
  | .ow i :: as, p, e => match e'[p]? with
    | some (.ow xs) => backO e' as (p + 1) (e.set i (.ow xs))
    | _ => none
def callO (body : M Fl) (n : Nat) (os : List Bool) (fs : List (M RV)) : M RV := bnd (argsM fs) fun rs => bnd (frzO os rs) fun as => fun e =>
  if as.all (okO e) = true ∧ (ixO as).Nodup then (match body (as.map (slO e) ++ List.replicate (n - as.length) .un) with
    | .ok (.rt (.sh d)) e' => (match backO e' as 0 e with
      | some e2 => .ok (.sh d) e2
      | none => .st)
    | _ => .st) else .st
/-- a lent list as it stands -/
def LentAt (G : Gb) (F H : Hp) (a : Addr) (xs : List D) : Prop := F a = none ∧ ∃ ws, H a = some (.lst ws) ∧ RpL G F xs ws
inductive SsOk (G : Gb) (F H : Hp) : List Slot → List V → List Addr → Prop
  | nil : SsOk G F H [] [] []
  | sh {d : D} {v : V} {ss : List Slot} {vs : List V} {O : List Addr} : Rp G F d v → SsOk G F H ss vs O → SsOk G F H (.sh d :: ss) (v :: vs) O
  | ow {a : Addr} {xs : List D} {ss : List Slot} {vs : List V} {O : List Addr} : LentAt G F H a xs → a ∉ O → SsOk G F H ss vs O → SsOk G F H (.ow xs :: ss) (.ref a :: vs) (a :: O)
structure ExtO (O : List Addr) (F H F' H' : Hp) : Prop where
  sF : Same F F'
  s : Same F' H'
  kH : ∀ b o, H b = some o → b ∉ O → H' b = some o
  nF : ∀ b, F b = none → H b ≠ none → b ∉ O → F' b = none
def spO (G : Gb) (np n : Nat) (body : M Fl) : Sp := fun vs H Q E => ∃ F ss O, Same F H ∧ SsOk G F H ss vs O ∧ vs.length = np ∧ match body (ss ++ List.replicate (n - np) .un) with
  | .ok (.rt (.sh d)) e' => ∀ F' H' v, ExtO O F H F' H' → Rp G F' d v → (∀ (p : Nat) (a : Addr) (xs : List D), ss[p]? = some (.ow xs) → vs[p]? = some (.ref a) → ∀ ys, e'[p]? = some (.ow ys) → LentAt G F' H' a ys) → Q v H'
  | _ => False
structure FnO (G : Gb) (k : Nat) (x : Str) (np n : Nat) (body : M Fl) : Prop where
  ex : ∃ (f : Addr) (fd : FuncData) (ps : List Str), ps.length = np ∧ G.mg x = some (.ref f) ∧ PySem.W.keepIn G.K (.ref f) = true ∧ Binds G.K fd ps [] ∧ FnOk G.P G.w G.K G.mg G.base (L2.CX G.P G.w) k f fd ps (spO G np n body)
section
variable {G : Gb} {c : Cp} {xa : XA} {fx : List Nat} {W : WX} {B : Bs} {F H F' H' F1 : Hp} {σ : St} {e : List Slot} {X : Cx} {pos : Pos} {es : List Expr} {fs : List (M RV)} {a : Expr}
theorem SsOk.len : ∀ {ss : List Slot} {vs : List V} {O : List Addr}, SsOk G F H ss vs O → ss.length = vs.length
  | _, _, _, .nil => rfl
  | _, _, _, .sh _ r => by rw [List.length_cons, List.length_cons, SsOk.len r]
  | _, _, _, .ow _ _ r => by rw [List.length_cons, List.length_cons, SsOk.len r]
theorem SsOk.at_ : ∀ {ss : List Slot} {vs : List V} {O : List Addr} {p : Nat} {s : Slot}, SsOk G F H ss vs O → ss[p]? = some s → ∃ v, vs[p]? = some v ∧ ((∃ d, s = .sh d ∧ Rp G F d v) ∨ ∃ a xs, s = .ow xs ∧ v = .ref a ∧ LentAt G F H a xs ∧ a ∈ O)
  | _, _, _, _, _, .nil, h => by simp at h
  | _, _, _, 0, _, .sh r _, h => by simp at h; subst h; exact ⟨_, rfl, .inl ⟨_, rfl, r⟩⟩
  | _, _, _, 0, _, .ow l _ _, h => by simp at h; subst h; exact ⟨_, rfl, .inr ⟨_, _, rfl, rfl, l, List.mem_cons_self ..⟩⟩
  | _, _, _, p + 1, _, .sh _ t, h => by
    obtain ⟨v, h1, h2⟩ := SsOk.at_ (p := p) t (by simpa using h)
    exact ⟨v, by simpa using h1, h2⟩
  | _, _, _, p + 1, _, .ow _ _ t, h => by
    obtain ⟨v, h1, h2⟩ := SsOk.at_ (p := p) t (by simpa using h)
    refine ⟨v, by simpa using h1, ?_⟩
    rcases h2 with h2 | ⟨a, xs, q1, q2, q3, q4⟩
    · exact .inl h2
    · exact .inr ⟨a, xs, q1, q2, q3, List.mem_cons_of_mem _ q4⟩
theorem SsOk.dj : ∀ {ss : List Slot} {vs : List V} {O : List Addr} {p q : Nat} {xs ys : List D} {a : Addr}, SsOk G F H ss vs O → ss[p]? = some (.ow xs) → ss[q]? = some (.ow ys) → vs[p]? = some (.ref a) → vs[q]? = some (.ref a) → p = q
  | _, _, _, _, _, _, _, _, .nil, h, _, _, _ => by simp at h
  | _, _, _, 0, 0, _, _, _, _, _, _, _, _ => rfl
  | _, _, _, 0, q + 1, _, _, _, .sh _ t, h1, _, _, _ => by simp at h1
  | _, _, _, p + 1, 0, _, _, _, .sh _ t, _, h2, _, _ => by simp at h2
  | _, _, _, 0, q + 1, _, _, a, .ow (a := b) _ n t, h1, h2, h3, h4 => by
    simp at h3
    subst h3
    obtain ⟨v, w1, w2⟩ := SsOk.at_ (p := q) t (by simpa using h2)
    rw [List.getElem?_cons_succ] at h4
    rw [h4] at w1
    cases w1
    rcases w2 with ⟨d, z, _⟩ | ⟨a', xs', z1, z2, _, z4⟩
    · cases z
    · cases z2; exact absurd z4 n
  | _, _, _, p + 1, 0, _, _, a, .ow (a := b) _ n t, h1, h2, h3, h4 => by
    simp at h4
    subst h4
    obtain ⟨v, w1, w2⟩ := SsOk.at_ (p := p) t (by simpa using h1)
    rw [List.getElem?_cons_succ] at h3
    rw [h3] at w1
    cases w1
    rcases w2 with ⟨d, z, _⟩ | ⟨a', xs', z1, z2, _, z4⟩
    · cases z
    · cases z2; exact absurd z4 n
  | _, _, _, p + 1, q + 1, _, _, _, .sh _ t, h1, h2, h3, h4 => by rw [SsOk.dj (p := p) (q := q) t (by simpa using h1) (by simpa using h2) (by simpa using h3) (by simpa using h4)]
  | _, _, _, p + 1, q + 1, _, _, _, .ow _ _ t, h1, h2, h3, h4 => by rw [SsOk.dj (p := p) (q := q) t (by simpa using h1) (by simpa using h2) (by simpa using h3) (by simpa using h4)]
theorem ok_startO {N : List Str} {ss : List Slot} {vs : List V} {O : List Addr} (s : Same F H) (r : SsOk G F H ss vs O) (hl : vs.length ≤ N.length) (hfx : ∀ (p : Nat) (xs : List D), ss[p]? = some (.ow xs) → p ∈ fx) :
    Ok G none fx ⟨F, H, O, start N vs, H⟩ F H (start N vs) (ss ++ List.replicate (N.length - vs.length) .un) where
  same := s
  sF := Same.refl _
  kH := fun _ _ q _ => q
  dom := fun _ q => q
  domE := fun _ q => q
  nF := fun _ q _ _ => q
  len := by
    rw [start_len hl, List.length_append, List.length_replicate, r.len]
    omega
  sl := fun i t o' h1 h2 => by
    by_cases hi : i < ss.length
    · rw [List.getElem?_append_left hi] at h1
      obtain ⟨v, hv, w⟩ := r.at_ h1
      rw [start_at hv] at h2
      cases h2
      rcases w with ⟨d, rfl, rp⟩ | ⟨a, xs, rfl, rfl, ⟨l1, ws, l2, l3⟩, m⟩
      · exact ⟨v, rfl, rp⟩
      · exact ⟨a, ws, rfl, l1, l2, l3, .inr m, .inl (hfx i xs h1)⟩
    · rw [List.getElem?_append_right (by omega)] at h1
      cases rep_un h1
      trivial
  dj := fun i j a n h1 h2 => by
    have key : ∀ i, Own (ss ++ List.replicate (N.length - vs.length) .un) (start N vs) i a → ∃ xs, ss[i]? = some (.ow xs) ∧ vs[i]? = some (.ref a) := fun i ⟨q1, t, q2, q3⟩ => by
      by_cases hi : i < ss.length
      · rw [List.getElem?_append_left hi] at q2
        obtain ⟨v, hv, w⟩ := r.at_ q2
        rw [start_at hv] at q1
        cases q1
        rcases w with ⟨d, rfl, rp⟩ | ⟨a, xs, rfl, _, _, m⟩
        · cases q3
        · exact ⟨xs, q2, hv⟩
      · rw [List.getElem?_append_right (by omega)] at q2
        cases rep_un q2
        cases q3
    obtain ⟨xs, x1, x2⟩ := key i h1
    obtain ⟨ys, y1, y2⟩ := key j h2
    exact n (r.dj x1 y1 x2 y2)
  fix := fun _ _ => rfl
theorem extO_of {F0 H0 : Hp} {σ0 : St} {O : List Addr} (k : Ok G xa fx ⟨F0, H0, O, σ0, H0⟩ F' H' σ e) : ExtO O F0 H0 F' H' := ⟨k.sF, k.same, fun b u q n => k.kH b u q n, fun b h1 h2 n => k.nF b h1 h2 n⟩
/-- a def whose parameters fx are lent -/
theorem fn_lent {x qual : Str} {params : Arguments} {bd : List Stmt} {sc : Scope} {f : Addr} {fd : FuncData} {N ps : List Str} {k : Nat} {body : M Fl} {fx : List Nat} (Fd : FunD G.K x qual params bd sc [] [] f fd) (S : FnScope N ps sc) (hfx : ∀ p, p < ps.length → p ∈ fx) (h : DSs G ⟨N, sc, k, true, true, fx⟩ bd body) :
    FnOk G.P G.w G.K G.mg G.base (L2.CX G.P G.w) (k + 1) f fd ps (spO G ps.length N.length body) := by
  have hpl := short_of S
  refine Fd.ok S (fun vs H Q E ⟨F, ss, O, _, _, l, _⟩ => l) fun cdv A outer s H vs Q E hr hsp => ?_
  obtain ⟨F, ss, O, sm, r, l, hg⟩ := hsp
  refine ⟨rdS G none fx (fun cls d _ H => E cls d H) body, h _ none (good_cx hr) _ (takes_of rfl rfl rfl rfl), ?_⟩
  have hss : ∀ (p : Nat) (xs : List D), ss[p]? = some (.ow xs) → p ∈ fx := fun p xs hp => hfx p (by have := (List.getElem?_eq_some_iff.mp hp).1; rw [r.len, l] at this; exact this)
  refine ⟨_, F, _, ok_startO sm r (by omega) hss, ?_⟩
  rw [← l] at hg
  cases q : body (ss ++ List.replicate (N.length - vs.length) .un) with
  | ok a e =>
    rw [q] at hg
    cases a with
    | nx => exact hg.elim
    | bk => exact hg.elim
    | ct => exact hg.elim
    | rt r' =>
      cases r' with
      | sh d =>
        intro F' H' σ' v s' o' rv
        refine hg F' H' v (extO_of o') rv fun p a xs hp hv ys hy => ?_
        have hs : σ'[p]? = some (some (.ref a)) := (o'.fix p (hss p xs hp)).trans (start_at hv)
        obtain ⟨b, ws, e1, e2, e3, e4, _⟩ := o'.sl p _ _ hy hs
        cases e1
        exact ⟨e2, ws, e3, e4⟩
      | fr xs => exact hg.elim
      | bo i => exact hg.elim
  | ex c fs e => rw [q] at hg; exact hg.elim
  | st => rw [q] at hg; exact hg.elim
theorem fo_def {d : He.DefD} {N ps : List Str} {k np n : Nat} {body : M Fl} {fx : List Nat} (hd : Has G d) (hm : G.mg d.name = some (.ref (He.fAd G.K d.at_))) (S : FnScope N ps d.scope) (h1 : ps.length = np) (h2 : N.length = n) (hfx : ∀ p, p < np → p ∈ fx)
    (hb : ∀ (kV doc pm : Value) (an : Option Addr) (cdv ct : Value) (us : List Value), us.length = ps.length → bindArgs (PySem.W.fnOf d.name d.qual d.params d.body d.scope .none kV doc pm an cdv ct) ⟨us, []⟩ = pure (ps.zip us))
    (h : DSs G ⟨N, d.scope, k, true, true, fx⟩ d.body body) : FnO G (k + 1) d.name np n body := by
  obtain ⟨fd, Fd⟩ := hd
  subst h1 h2
  exact ⟨_, fd, ps, rfl, hm, Fd.kp, Fd.bindsN (fun kV doc pm an cdv ct us hl => hb kV doc pm an cdv ct us hl), fn_lent Fd S hfx h⟩
/-- what the caller has behind a call that was lent lists -/
theorem Ok.extO {O : List Addr} {e2 : List Slot} (o : Ok G xa fx B F H σ e) (x : ExtO O F H F' H') (hO : ∀ a ∈ O, ∃ i, Own e σ i a) (hl : e2.length = e.length)
    (hs : ∀ (j : Nat) (s : Slot), e2[j]? = some s → (e[j]? = some s ∧ ∀ a, Own e σ j a → a ∉ O) ∨ ∃ (a : Addr) (ys xs : List D), σ[j]? = some (some (.ref a)) ∧ e[j]? = some (.ow xs) ∧ a ∈ O ∧ s = .ow ys ∧ LentAt G F' H' a ys) : Ok G xa fx B F' H' σ e2 := by
  have bo : ∀ a ∈ O, B.H a = none ∨ a ∈ B.O := fun a ha => by
    obtain ⟨i, h1, s, h2, h3⟩ := hO a ha
    have z := o.sl i s _ h2 h1
    cases s with
    | ow xs => obtain ⟨b, vs, e1, f, hh, r, q, _⟩ := z; cases e1; exact q
    | ob c fs => obtain ⟨b, C, dx, vfs, e1, f, hh, m, r, q, _⟩ := z; cases e1; exact q
    | _ => cases h3
  have there : ∀ a ∈ O, H' a ≠ none := fun a ha => by
    obtain ⟨i, h1, s, h2, h3⟩ := hO a ha
    have hi : i < e2.length := by rw [hl]; exact (List.getElem?_eq_some_iff.mp h2).1
    have h4 : e2[i]? = some e2[i] := List.getElem?_eq_getElem hi
    rcases hs i _ h4 with ⟨k1, k2⟩ | ⟨b, ys, xs, k1, k2, k3, k4, k5⟩
    · exact absurd ha (k2 a ⟨h1, s, h2, h3⟩)
    · rw [h1] at k1; cases k1
      obtain ⟨_, ws, w, _⟩ := k5
      exact ne_none w
  have keep : ∀ b u, H b = some u → b ∉ O → H' b = some u := x.kH
  refine ⟨x.s, o.sF.trans x.sF, fun b u q n => ?_, fun b q => ?_, fun b q => ?_, fun b h1 h2 h3 => ?_, by rw [hl]; exact o.len, fun j s w h1 h2 => ?_, fun i j b n h1 h2 => ?_, o.fix⟩
  · refine keep b u (o.kH b u q n) fun hb => ?_
    rcases bo b hb with z | z
    · rw [z] at q; cases q
    · exact n z
  · by_cases hb : b ∈ O
    · exact there b hb
    · have := o.dom b q
      cases z : H b with
      | none => exact absurd z this
      | some u => rw [keep b u z hb]; exact fun z => nomatch z
  · by_cases hb : b ∈ O
    · exact there b hb
    · have := o.domE b q
      cases z : H b with
      | none => exact absurd z this
      | some u => rw [keep b u z hb]; exact fun z => nomatch z
  · refine x.nF b (o.nF b h1 h2 h3) (o.dom b h2) fun hb => ?_
    rcases bo b hb with z | z
    · exact h2 z
    · exact h3 z
  · rcases hs j s h1 with ⟨k1, k2⟩ | ⟨a, ys, xs, k1, k2, k3, rfl, k5⟩
    · have z := o.sl j s w k1 h2
      have nO : ∀ a : Addr, w = some (V.ref a) → isOw s = true → a ∉ O := fun a ew hs' => k2 a ⟨(show σ[j]? = some (some (V.ref a)) from by rw [h2, ew]), s, k1, hs'⟩
      cases s with
      | un => trivial
      | sh d => obtain ⟨v, e1, r⟩ := z; exact ⟨v, e1, r.mono x.sF⟩
      | ow xs =>
        obtain ⟨b, vs, e1, f, hh, r, q⟩ := z
        exact ⟨b, vs, e1, x.nF b f (ne_none hh) (nO b e1 rfl), keep b _ hh (nO b e1 rfl), r.mono x.sF, q⟩
      | ob c fs =>
        obtain ⟨b, C, dx, vfs, e1, f, hh, m, r, q⟩ := z
        exact ⟨b, C, dx, vfs, e1, x.nF b f (ne_none hh) (nO b e1 rfl), keep b _ hh (nO b e1 rfl), m, RpF.mono x.sF r, q⟩
      | ex c fs => obtain ⟨b, C, d, e1, e3, m, f⟩ := z; exact ⟨b, C, d, e1, e3, m, f.mono x.sF⟩
    · rw [k1] at h2
      cases h2
      obtain ⟨b, vs, e1, f, hh, r, q1, q2⟩ := o.sl j _ _ k2 k1
      cases e1
      obtain ⟨l1, ws, l2, l3⟩ := k5
      exact ⟨a, ws, rfl, l1, l2, l3, q1, q2⟩
  · have key : ∀ m, Own e2 σ m b → Own e σ m b := fun m ⟨q1, t, q2, q3⟩ => by
      rcases hs m t q2 with ⟨k1, _⟩ | ⟨a, ys, xs, k1, k2, _⟩
      · exact ⟨q1, t, k1, q3⟩
      · exact ⟨q1, _, k2, rfl⟩
    exact o.dj i j b n (key i h1) (key j h2)
/-- what the arguments are, by values -/
inductive AsOk (G : Gb) (F : Hp) (σ : St) : List AR → List V → Prop
  | nil : AsOk G F σ [] []
  | sh {d : D} {v : V} {as : List AR} {vs : List V} : Rp G F d v → AsOk G F σ as vs → AsOk G F σ (.sh d :: as) (v :: vs)
  | ow {i : Nat} {v : V} {as : List AR} {vs : List V} : σ[i]? = some (some v) → AsOk G F σ as vs → AsOk G F σ (.ow i :: as) (v :: vs)
theorem AsOk.mono (s : Same F F') : ∀ {as : List AR} {vs : List V}, AsOk G F σ as vs → AsOk G F' σ as vs
  | _, _, .nil => .nil
  | _, _, .sh r t => .sh (r.mono s) (AsOk.mono s t)
  | _, _, .ow r t => .ow r (AsOk.mono s t)
theorem p_frzO {β : Type} {Kx : Hp → Hp → List Slot → β → Prop} : ∀ {os : List Bool} {rs : List RV} {k : List AR → M β} {xs : List V} {F : Hp} {e : List Slot}, Ok G xa fx B F H σ e → HeldL G F σ xs rs → Post G xa fx W B F σ Kx (bnd (frzO os rs) k e) →
    ∃ F1 e1 as, Same F F1 ∧ Ok G xa fx B F1 H σ e1 ∧ AsOk G F1 σ as xs ∧ as.length = os.length ∧ Post G xa fx W B F1 σ Kx (k as e1)
  | [], [], k, _, F, e, o, .nil, p => ⟨F, e, [], Same.refl _, o, .nil, rfl, p⟩
  | true :: os, .bo i :: rs, k, x :: xs, F, e, o, .cons h t, p => by
    rw [show frzO (true :: os) (.bo i :: rs) = bnd (frzO os rs) fun as => fun e => .ok (.ow i :: as) e from rfl, bnd_bnd] at p
    obtain ⟨F2, e2, as, s2, o2, r2, l2, p2⟩ := p_frzO o t p
    exact ⟨F2, e2, .ow i :: as, s2, o2, .ow h r2, by simp [l2], p2⟩
  | false :: os, r :: rs, k, x :: xs, F, e, o, .cons h t, p => by
    rw [show frzO (false :: os) (r :: rs) = bnd (frzR r) fun d => bnd (frzO os rs) fun as => fun e => .ok (.sh d :: as) e from by cases r <;> rfl, bnd_bnd] at p
    obtain ⟨F1, e1, d, s1, o1, r1, p1⟩ := p_frz o h p
    rw [bnd_bnd] at p1
    obtain ⟨F2, e2, as, s2, o2, r2, l2, p2⟩ := p_frzO o1 (t.mono s1) p1
    exact ⟨F2, e2, .sh d :: as, s1.trans s2, o2, .sh (r1.mono s2) r2, by simp [l2], p2⟩
  | [], _ :: _, _, _, _, _, _, _, p => p.elim
  | _ :: _, [], _, _, _, _, _, _, p => by
    rename_i b _ _ _ _ _ _ _
    cases b <;> exact p.elim
  | true :: _, .sh _ :: _, _, _, _, _, _, _, p => p.elim
  | true :: _, .fr _ :: _, _, _, _, _, _, _, p => p.elim
theorem own_at (o : Ok G xa fx B F H σ e) {i : Nat} {v : V} (h : σ[i]? = some (some v)) {xs : List D} (he : e[i]? = some (.ow xs)) : ∃ a, v = .ref a ∧ LentAt G F H a xs ∧ Own e σ i a := by
  obtain ⟨a, ws, e1, f, hh, r, _⟩ := o.sl i _ _ he h
  cases e1
  exact ⟨a, rfl, ⟨f, ws, hh, r⟩, h, _, he, rfl⟩
/-- the callee's names -/
theorem ss_of (o : Ok G xa fx B F H σ e) : ∀ {as : List AR} {vs : List V}, AsOk G F σ as vs → as.all (okO e) = true → (ixO as).Nodup → ∃ O, SsOk G F H (as.map (slO e)) vs O ∧ ∀ a ∈ O, ∃ i ∈ ixO as, Own e σ i a
  | _, _, .nil, _, _ => ⟨[], .nil, fun a h => by cases h⟩
  | _, _, .sh r t, h, n => by
    rw [List.all_cons, Bool.and_eq_true] at h
    obtain ⟨O, h1, h2⟩ := ss_of o t h.2 n
    exact ⟨O, .sh r h1, h2⟩
  | .ow i :: as, _, .ow r t, h, n => by
    rw [List.all_cons, Bool.and_eq_true] at h
    obtain ⟨n1, n2⟩ := List.nodup_cons.mp (show (i :: ixO as).Nodup from n)
    obtain ⟨O, h1, h2⟩ := ss_of o t h.2 n2
    cases he : e[i]? with
    | none => have := h.1; simp [okO, he] at this
    | some s =>
      cases s with
      | ow xs =>
        obtain ⟨a, rfl, l, w⟩ := own_at o r he
        refine ⟨a :: O, ?_, fun b hb => ?_⟩
        · rw [List.map_cons, show slO e (.ow i) = .ow xs from by simp [slO, he]]
          refine .ow l (fun hm => ?_) h1
          obtain ⟨j, hj, wj⟩ := h2 a hm
          have : i = j := Classical.byContradiction fun ne => o.dj i j a ne w wj
          subst this
          exact n1 hj
        · rcases List.mem_cons.mp hb with rfl | hb
          · exact ⟨i, List.mem_cons_self .., w⟩
          · obtain ⟨j, hj, wj⟩ := h2 b hb
            exact ⟨j, List.mem_cons_of_mem _ hj, wj⟩
      | un => have := h.1; simp [okO, he] at this
      | sh d => have := h.1; simp [okO, he] at this
      | ob c fs => have := h.1; simp [okO, he] at this
      | ex c fs => have := h.1; simp [okO, he] at this
/-- what is given back, slot by slot -/
theorem back_at {e' : List Slot} : ∀ {as : List AR} {p : Nat} {e e2 : List Slot}, backO e' as p e = some e2 → (ixO as).Nodup → e2.length = e.length ∧
    ∀ (j : Nat), (j ∉ ixO as → e2[j]? = e[j]?) ∧ (j ∈ ixO as → j < e.length → ∃ (q : Nat) (ys : List D), as[q]? = some (.ow j) ∧ e'[p + q]? = some (.ow ys) ∧ e2[j]? = some (.ow ys))
  | [], p, e, e2, h, n => by
    cases h
    exact ⟨rfl, fun j => ⟨fun _ => rfl, fun hj => by cases hj⟩⟩
  | .sh d :: as, p, e, e2, h, n => by
    obtain ⟨h1, h2⟩ := back_at (as := as) (p := p + 1) h n
    refine ⟨h1, fun j => ⟨(h2 j).1, fun hj hl => ?_⟩⟩
    obtain ⟨q, ys, q1, q2, q3⟩ := (h2 j).2 hj hl
    exact ⟨q + 1, ys, by simpa using q1, by rw [← q2]; congr 1; omega, q3⟩
  | .ow i :: as, p, e, e2, h, n => by
    unfold backO at h
    obtain ⟨n1, n2⟩ := List.nodup_cons.mp (show (i :: ixO as).Nodup from n)
    cases he : e'[p]? with
    | none => rw [he] at h; cases h
    | some s =>
      rw [he] at h
      cases s with
      | ow xs =>
        dsimp only at h
        obtain ⟨h1, h2⟩ := back_at (as := as) (p := p + 1) h n2
        rw [List.length_set] at h1
        refine ⟨h1, fun j => ⟨fun hj => ?_, fun hj hl => ?_⟩⟩
        · have hj' : j ∉ i :: ixO as := hj
          rw [List.mem_cons, not_or] at hj'
          rw [(h2 j).1 hj'.2, List.getElem?_set_ne (fun z => hj'.1 z.symm)]
        · by_cases hji : j = i
          · subst hji
            refine ⟨0, xs, rfl, by simpa using he, ?_⟩
            rw [(h2 j).1 n1, List.getElem?_set_self hl]
          · have hj' : j ∈ ixO as := by
              rcases List.mem_cons.mp (show j ∈ i :: ixO as from hj) with z | z
              · exact absurd z hji
              · exact z
            obtain ⟨q, ys, q1, q2, q3⟩ := (h2 j).2 hj' (by rw [List.length_set]; exact hl)
            exact ⟨q + 1, ys, by simpa using q1, by rw [← q2]; congr 1; omega, q3⟩
      | un => cases h
      | sh d => cases h
      | ob c fs => cases h
      | ex c fs => cases h
theorem as_at : ∀ {as : List AR} {vs : List V} {q i : Nat}, AsOk G F σ as vs → as[q]? = some (.ow i) → ∃ v, vs[q]? = some v ∧ σ[i]? = some (some v)
  | _, _, _, _, .nil, h => by simp at h
  | _, _, 0, _, .sh _ _, h => by simp at h
  | _, _, 0, _, .ow r _, h => by simp at h; subst h; exact ⟨_, rfl, r⟩
  | _, _, q + 1, _, .sh _ t, h => by
    obtain ⟨v, h1, h2⟩ := as_at (q := q) t (by simpa using h)
    exact ⟨v, by simpa using h1, h2⟩
  | _, _, q + 1, _, .ow _ t, h => by
    obtain ⟨v, h1, h2⟩ := as_at (q := q) t (by simpa using h)
    exact ⟨v, by simpa using h1, h2⟩
theorem ix_lt : ∀ {as : List AR}, as.all (okO e) = true → ∀ i ∈ ixO as, ∃ xs, e[i]? = some (.ow xs)
  | [], _, i, h => by cases h
  | .sh _ :: as, h, i, hi => by
    rw [List.all_cons, Bool.and_eq_true] at h
    exact ix_lt h.2 i hi
  | .ow j :: as, h, i, hi => by
    rw [List.all_cons, Bool.and_eq_true] at h
    rcases List.mem_cons.mp (show i ∈ j :: ixO as from hi) with rfl | hi
    · cases he : e[i]? with
      | none => have := h.1; simp [okO, he] at this
      | some s => cases s with
        | ow xs => exact ⟨xs, rfl⟩
        | un => have := h.1; simp [okO, he] at this
        | sh d => have := h.1; simp [okO, he] at this
        | ob c fs => have := h.1; simp [okO, he] at this
        | ex c fs => have := h.1; simp [okO, he] at this
    · exact ix_lt h.2 i hi
theorem de_callO {x : Str} {k np n : Nat} {body : M Fl} {p : Pos} {os : List Bool} (Fn : FnO G k x np n body) (hk : k ≤ c.k) (hc : c.cm = true) (h : chkG c x = true) (ha : DA G c (a :: es) fs) (hn : os.length = np) (hs : (a :: es).all noStar = true) :
    DE G c (.Call (.Name x p) (a :: es) [] pos) (callO body n os fs) := fun X xa gd W tk => by
  obtain ⟨f, fd, ps, el, hm, hkp, hb, F0⟩ := Fn.ex
  obtain ⟨h1, h2, h3⟩ := chkG_ok h gd
  rw [List.all_cons, Bool.and_eq_true] at hs
  have F1 : FnOk X.prog X.w X.K X.mg X.base (L2.CX X.prog X.w) k f fd ps (spO G np n body) := by rw [gd.prog, gd.w, gd.K, gd.mg, gd.base]; exact F0
  refine PE.weak (pe_callS F1 ((gd.room hc).mono hk) h1 (by rw [gd.mg]; exact hm) (by rw [gd.K]; exact hkp) (by rw [gd.K]; exact hb) (fun σ => passAt tk σ) (ha X xa gd W tk) h2 (noStar_ok hs.1) (noStar_any hs.2)) fun σ H Q ⟨B, F, e, o, pp⟩ => ?_
  refine (p_bal o pp).imp fun _ _ H1 _ _ _ q xs rv => ?_
  obtain ⟨F1, e1, rs, s1, o1, k1, l1, p1⟩ := q xs rv
  obtain ⟨F2, e2, as, s2, o2, k2, l2, p2⟩ := p_frzO o1 k1 p1
  dsimp only at p2
  by_cases hg : as.all (okO e2) = true ∧ (ixO as).Nodup
  · rw [if_pos hg] at p2
    obtain ⟨O, so, hO⟩ := ss_of o2 k2 hg.1 hg.2
    have sl := so.len
    rw [List.length_map] at sl
    have npx : xs.length = np := by rw [← sl, l2, hn]
    refine ⟨F2, as.map (slO e2), O, o2.same, so, npx, ?_⟩
    rw [sl, npx] at p2
    cases hb2 : body (as.map (slO e2) ++ List.replicate (n - np) .un) with
    | st => rw [hb2] at p2; exact p2.elim
    | ex c' fs' e' => rw [hb2] at p2; exact p2.elim
    | ok fl e' =>
      rw [hb2] at p2
      cases fl with
      | nx => exact p2.elim
      | bk => exact p2.elim
      | ct => exact p2.elim
      | rt r =>
        cases r with
        | fr _ => exact p2.elim
        | bo _ => exact p2.elim
        | sh d =>
          dsimp only at p2
          cases hbk : backO e' as 0 e2 with
          | none => rw [hbk] at p2; exact p2.elim
          | some e3 =>
            rw [hbk] at p2
            intro F' H' v x rp hlent
            obtain ⟨b1, b2⟩ := back_at hbk hg.2
            refine p2 F' H' x.sF (o2.extO x (fun a ha => by obtain ⟨i, _, w⟩ := hO a ha; exact ⟨i, w⟩) b1 fun j s hj => ?_) v rp
            by_cases hji : j ∈ ixO as
            · right
              obtain ⟨xs', hx'⟩ := ix_lt hg.1 j hji
              have jl : j < e2.length := (List.getElem?_eq_some_iff.mp hx').1
              obtain ⟨q, ys, q1, q2, q3⟩ := (b2 j).2 hji jl
              rw [Nat.zero_add] at q2
              rw [hj] at q3
              cases q3
              obtain ⟨v', v1, v2⟩ := as_at k2 q1
              obtain ⟨a, rfl, lt, w⟩ := own_at o2 v2 hx'
              have hss : (as.map (slO e2))[q]? = some (.ow xs') := by rw [List.getElem?_map, q1]; simp [slO, hx']
              obtain ⟨v3, w1, w2⟩ := so.at_ hss
              rw [v1] at w1
              cases w1
              rcases w2 with ⟨_, z, _⟩ | ⟨a', _, _, z, _, m⟩
              · cases z
              · cases z
                exact ⟨a, ys, xs', v2, hx', m, rfl, hlent q a xs' hss v1 ys q2⟩
            · left
              rw [(b2 j).1 hji] at hj
              refine ⟨hj, fun a w hm => ?_⟩
              obtain ⟨i, hi, wi⟩ := hO a hm
              have : j = i := Classical.byContradiction fun ne => o2.dj j i a ne w wi
              subst this
              exact hji hi
  · rw [if_neg hg] at p2
    exact p2.elim
end
end DL
set_option Elab.async false
set_option linter.all false
set_option maxRecDepth 100000
set_option maxHeartbeats 1000000
noncomputable section
namespace DL
open PySem PySem.Spec L2
open PyProof.Rows hiding St
set_option autoImplicit false
/-! ### evaluation: lent lists -/
section
variable {e : List Slot}
@[simp] theorem e_frzON : frzO [] [] e = .ok [] e := rfl
@[simp] theorem e_frzOT {os : List Bool} {i : Nat} {rs : List RV} : frzO (true :: os) (.bo i :: rs) e = match frzO os rs e with
  | .ok as e' => .ok (.ow i :: as) e'
  | .ex c fs e' => .ex c fs e'
  | .st => .st := by
  show bnd (frzO os rs) _ e = _
  (rw [e_bnd]) <;> (cases frzO os rs e <;> rfl)
@[simp] theorem e_frzOF {os : List Bool} {r : RV} {rs : List RV} : frzO (false :: os) (r :: rs) e = match frzR r e with
  | .ok d e' => (match frzO os rs e' with
    | .ok as e2 => .ok (.sh d :: as) e2
    | .ex c fs e' => .ex c fs e'
    | .st => .st)
  | .ex c fs e' => .ex c fs e'
  | .st => .st := by
  have : frzO (false :: os) (r :: rs) = bnd (frzR r) fun d => bnd (frzO os rs) fun as => fun e => .ok (.sh d :: as) e := by cases r <;> rfl
  rw [this]
  (rw [e_bnd]) <;> (cases frzR r e with
  | ok d e' => (dsimp only) <;> ((rw [e_bnd]) <;> (cases frzO os rs e' <;> rfl))
  | _ => rfl)
@[simp] theorem e_slS {d : D} : slO e (.sh d) = .sh d := rfl
@[simp] theorem e_slW {i : Nat} : slO e (.ow i) = match e[i]? with
  | some (.ow xs) => .ow xs
  | _ => .un := rfl
@[simp] theorem e_okS {d : D} : okO e (.sh d) = true := rfl
@[simp] theorem e_okW {i : Nat} : okO e (.ow i) = match e[i]? with
  | some (.ow _) => true
  | _ => false := rfl
@[simp] theorem e_ixN : ixO [] = [] := rfl
@[simp] theorem e_ixS {d : D} {as : List AR} : ixO (.sh d :: as) = ixO as := rfl
@[simp] theorem e_ixW {i : Nat} {as : List AR} : ixO (.ow i :: as) = i :: ixO as := rfl
@[simp] theorem e_bkN {e' : List Slot} {p : Nat} : backO e' [] p e = some e := rfl
@[simp] theorem e_bkS {e' : List Slot} {d : D} {as : List AR} {p : Nat} : backO e' (.sh d :: as) p e = backO e' as (p + 1) e := rfl
@[simp] theorem e_bkW {e' : List Slot} {i : Nat} {as : List AR} {p : Nat} : backO e' (.ow i :: as) p e = match e'[p]? with
  | some (.ow xs) => backO e' as (p + 1) (e.set i (.ow xs))
  | _ => none := rfl
@[simp] theorem e_callO {body : M Fl} {n : Nat} {os : List Bool} {fs : List (M RV)} : callO body n os fs e = match argsM fs e with
  | .ok rs e' => (match frzO os rs e' with
    | .ok as e => if as.all (okO e) = true ∧ (ixO as).Nodup then (match body (as.map (slO e) ++ List.replicate (n - as.length) .un) with
      | .ok (.rt (.sh d)) e' => (match backO e' as 0 e with
        | some e2 => .ok (.sh d) e2
        | none => .st)
      | _ => .st) else .st
    | .ex c fs e' => .ex c fs e'
    | .st => .st)
  | .ex c fs e' => .ex c fs e'
  | .st => .st := by
  unfold callO
  (rw [e_bnd]) <;> (cases argsM fs e with
  | ok rs e' => (dsimp only) <;> ((rw [e_bnd]) <;> (cases frzO os rs e' <;> rfl))
  | _ => rfl)
end
end DL
set_option Elab.async false
set_option linter.all false
set_option maxRecDepth 100000
set_option maxHeartbeats 1000000
noncomputable section
namespace DL
open PySem PySem.Spec L2
open PyProof.Rows hiding St
set_option autoImplicit false
/-! ### an object made of what names own, which they keep -/
def obD : Option Slot → Option D
  | some (.ob c fs) => some (.ins c fs)
  | some (.sh d) => some d
  | _ => none
def makeO (cl : Str) (body : M Fl) (n : Nat) (os : List Bool) (fs : List (M RV)) : M RV := bnd (argsM fs) fun rs => bnd (frzO os rs) fun as => fun e =>
  if as.all (okO e) = true ∧ (ixO as).Nodup then (match body (.ob cl [] :: as.map (slO e) ++ List.replicate (n - (as.length + 1)) .un) with
    | .ok .nx e' => (match obD e'[0]? with
      | some d => (match backO e' as 1 e with
        | some e2 => .ok (.sh d) e2
        | none => .st)
      | none => .st)
    | .ex c fs e' => (match backO e' as 1 e with
      | some e2 => .ex c fs e2
      | none => .st)
    | _ => .st) else .st
/-- the lent lists as the callee leaves them -/
def BackAt (G : Gb) (F' H' : Hp) (ss : List Slot) (rest : List V) (e' : List Slot) : Prop := ∀ (p : Nat) (a : Addr) (xs : List D), ss[p]? = some (.ow xs) → rest[p]? = some (.ref a) → ∀ ys, e'[p + 1]? = some (.ow ys) → LentAt G F' H' a ys
def spMkO (G : Gb) (cl : Str) (np n : Nat) (body : M Fl) : Sp := fun vs H Q E => ∃ F ss x C dx rest O, vs = .ref x :: rest ∧ vs.length = np ∧ Same F H ∧ F x = none ∧ H x = some (.ins C dx []) ∧ G.mg cl = some (.ref C) ∧ SsOk G F H ss rest O ∧ x ∉ O ∧ match body (.ob cl [] :: ss ++ List.replicate (n - np) .un) with
  | .ok .nx e' => (match obD e'[0]? with
    | some d => ∀ F' H', ExtO (x :: O) F H F' H' → Rp G F' d (.ref x) → BackAt G F' H' ss rest e' → Q .non H'
    | none => False)
  | .ex c fs e' => ∀ F' H' cls d, ExtO (x :: O) F H F' H' → ExOk G F' c fs cls d → BackAt G F' H' ss rest e' → E cls d H'
  | _ => False
structure MkO (G : Gb) (k : Nat) (cl : Str) (np n : Nat) (body : M Fl) : Prop where
  ex : ∃ (C f : Addr) (fd : FuncData) (ps : List Str), ps.length = np ∧ G.mg cl = some (.ref C) ∧ Mk G.K C f ∧ Binds G.K fd ps [] ∧ FnOk G.P G.w G.K G.mg G.base (L2.CX G.P G.w) k f fd ps (spMkO G cl np n body)
section
variable {G : Gb} {c : Cp} {xa : XA} {fx : List Nat} {W : WX} {B : Bs} {F H F' H' F1 : Hp} {σ : St} {e : List Slot} {X : Cx} {pos : Pos} {es : List Expr} {fs : List (M RV)} {a : Expr}
theorem ok_startXO {N : List Str} {ss : List Slot} {vs : List V} {O : List Addr} {x C dx : Addr} {cl : Str} (s : Same F H) (hF : F x = none) (hH : H x = some (.ins C dx [])) (hm : G.mg cl = some (.ref C)) (r : SsOk G F H ss vs O) (hx : x ∉ O) (hl : vs.length + 1 ≤ N.length)
    (hf0 : 0 ∈ fx) (hfx : ∀ (p : Nat) (xs : List D), ss[p]? = some (.ow xs) → p + 1 ∈ fx) :
    Ok G none fx ⟨F, H, x :: O, start N (.ref x :: vs), H⟩ F H (start N (.ref x :: vs)) (.ob cl [] :: ss ++ List.replicate (N.length - (vs.length + 1)) .un) where
  same := s
  sF := Same.refl _
  kH := fun _ _ q _ => q
  dom := fun _ q => q
  domE := fun _ q => q
  nF := fun _ q _ _ => q
  len := by
    rw [start_len (by rw [List.length_cons]; exact hl), List.length_append, List.length_cons, List.length_replicate, r.len]
    omega
  sl := fun i t o' h1 h2 => by
    cases i with
    | zero =>
      rw [List.cons_append, List.getElem?_cons_zero] at h1
      cases h1
      rw [start_at (x := .ref x) (by simp)] at h2
      cases h2
      exact ⟨x, C, dx, [], rfl, hF, hH, hm, .nil, .inr (List.mem_cons_self ..), .inl hf0⟩
    | succ i =>
      rw [List.cons_append, List.getElem?_cons_succ] at h1
      by_cases hi : i < ss.length
      · rw [List.getElem?_append_left hi] at h1
        obtain ⟨v, hv, w⟩ := r.at_ h1
        rw [start_at (x := v) (by rw [List.getElem?_cons_succ]; exact hv)] at h2
        cases h2
        rcases w with ⟨d, rfl, rp⟩ | ⟨a, xs, rfl, rfl, ⟨l1, ws, l2, l3⟩, m⟩
        · exact ⟨v, rfl, rp⟩
        · exact ⟨a, ws, rfl, l1, l2, l3, .inr (List.mem_cons_of_mem _ m), .inl (hfx i xs h1)⟩
      · rw [List.getElem?_append_right (by omega)] at h1
        cases rep_un h1
        trivial
  dj := fun i j a n h1 h2 => by
    have key : ∀ i, Own (.ob cl [] :: ss ++ List.replicate (N.length - (vs.length + 1)) .un) (start N (.ref x :: vs)) i a → (i = 0 ∧ a = x) ∨ ∃ p xs, i = p + 1 ∧ ss[p]? = some (.ow xs) ∧ vs[p]? = some (.ref a) ∧ a ∈ O := fun i ⟨q1, t, q2, q3⟩ => by
      cases i with
      | zero =>
        rw [start_at (x := .ref x) (by simp)] at q1
        cases q1
        exact .inl ⟨rfl, rfl⟩
      | succ i =>
        rw [List.cons_append, List.getElem?_cons_succ] at q2
        by_cases hi : i < ss.length
        · rw [List.getElem?_append_left hi] at q2
          obtain ⟨v, hv, w⟩ := r.at_ q2
          rw [start_at (x := v) (by rw [List.getElem?_cons_succ]; exact hv)] at q1
          cases q1
          rcases w with ⟨d, rfl, rp⟩ | ⟨a', xs, rfl, z, _, m⟩
          · cases q3
          · cases z
            exact .inr ⟨i, xs, rfl, q2, hv, m⟩
        · rw [List.getElem?_append_right (by omega)] at q2
          cases rep_un q2
          cases q3
    rcases key i h1 with ⟨e1, e2⟩ | ⟨p, xs, e1, x1, x2, m1⟩
    · rcases key j h2 with ⟨e3, e4⟩ | ⟨q, ys, e3, y1, y2, m2⟩
      · exact n (e1.trans e3.symm)
      · rw [e2] at m2; exact hx m2
    · rcases key j h2 with ⟨e3, e4⟩ | ⟨q, ys, e3, y1, y2, m2⟩
      · rw [e4] at m1; exact hx m1
      · have := r.dj x1 y1 x2 y2
        exact n (by omega)
  fix := fun _ _ => rfl
/-- an __init__ whose parameters are lent -/
theorem fn_initO {x qual cl : Str} {params : Arguments} {bd : List Stmt} {sc : Scope} {f : Addr} {fd : FuncData} {N ps : List Str} {k : Nat} {body : M Fl} {fx : List Nat} (Fd : FunD G.K x qual params bd sc [] [] f fd) (S : FnScope N ps sc) (hfx : ∀ p, p < ps.length → p ∈ fx) (h : DSs G ⟨N, sc, k, true, true, fx⟩ bd body) :
    FnOk G.P G.w G.K G.mg G.base (L2.CX G.P G.w) (k + 1) f fd ps (spMkO G cl ps.length N.length body) := by
  have hpl := short_of S
  refine Fd.ok S (fun vs H Q E ⟨F, ss, x, C, dx, rest, O, _, l, _⟩ => l) fun cdv A outer s H vs Q E hr hsp => ?_
  obtain ⟨F, ss, x, C, dx, rest, O, ev, l, sm, hF, hH, hm, r, hx, hg⟩ := hsp
  subst ev
  rw [List.length_cons] at l
  refine ⟨rdS G none fx (fun cls d _ H => E cls d H) body, h _ none (good_cx hr) _ (takes_of rfl rfl rfl rfl), ?_⟩
  have hss : ∀ (p : Nat) (xs : List D), ss[p]? = some (.ow xs) → p + 1 ∈ fx := fun p xs hp => hfx _ (by have := (List.getElem?_eq_some_iff.mp hp).1; rw [r.len] at this; omega)
  have h00 : 0 ∈ fx := hfx 0 (by omega)
  refine ⟨_, F, _, ok_startXO sm hF hH hm r hx (by omega) h00 hss, ?_⟩
  have back : ∀ {F' H' : Hp} {σ' : St} {e1 e : List Slot}, Ok G none fx ⟨F, H, x :: O, start N (.ref x :: rest), H⟩ F' H' σ' e1 → (∀ j, 0 < j → e1[j]? = e[j]?) → BackAt G F' H' ss rest e := fun {F' H' σ' e1 e} o' he p a xs hp hv ys hy => by
    have hs : σ'[p + 1]? = some (some (.ref a)) := (o'.fix (p + 1) (hss p xs hp)).trans (start_at (x := .ref a) (by rw [List.getElem?_cons_succ]; exact hv))
    rw [← he (p + 1) (by omega)] at hy
    obtain ⟨b, ws, e1', e2, e3, e4, _⟩ := o'.sl (p + 1) _ _ hy hs
    cases e1'
    exact ⟨e2, ws, e3, e4⟩
  rw [← l] at hg
  cases q : body (.ob cl [] :: ss ++ List.replicate (N.length - (rest.length + 1)) .un) with
  | ok a e =>
    rw [q] at hg
    cases a with
    | nx =>
      intro F' H' σ' s' o'
      simp only at hg
      have h0 : σ'[0]? = some (some (.ref x)) := (o'.fix 0 h00).trans (start_at (x := .ref x) (by simp))
      cases he : e[0]? with
      | none => rw [he] at hg; exact hg.elim
      | some s0 =>
        rw [he] at hg
        cases s0 with
        | ob c fs =>
          obtain ⟨F2, d, sm2, o2, rp, q2⟩ := o'.promote h0 he rfl
          have ed : d = .ins c fs := by
            simp only [frzR, he] at q2
            have := Out.ok.inj q2
            exact this.1.symm
          subst ed
          exact hg F2 H' (extO_of o2) rp (back o2 fun j hj => by rw [List.getElem?_set_ne (by omega)])
        | sh d =>
          obtain ⟨v, ev, rv⟩ := o'.sl 0 _ _ he h0
          cases ev
          exact hg F' H' (extO_of o') rv (back o' fun _ _ => rfl)
        | un => exact hg.elim
        | ow xs => exact hg.elim
        | ex c fs => exact hg.elim
    | bk => exact hg.elim
    | ct => exact hg.elim
    | rt r => exact hg.elim
  | ex c fs e => rw [q] at hg; exact fun F' H' σ' cls d s' o' z => hg F' H' cls d (extO_of o') z (back o' fun _ _ => rfl)
  | st => rw [q] at hg; exact hg.elim
theorem mo_def {d : He.DefD} {cl : Str} {C : Addr} {N ps : List Str} {k np n : Nat} {body : M Fl} {fx : List Nat} (hd : Has G d) (hm : G.mg cl = some (.ref C)) (hk : Mk G.K C (He.fAd G.K d.at_)) (S : FnScope N ps d.scope) (h1 : ps.length = np) (h2 : N.length = n) (hfx : ∀ p, p < np → p ∈ fx)
    (hb : ∀ (kV doc pm : Value) (an : Option Addr) (cdv ct : Value) (us : List Value), us.length = ps.length → bindArgs (PySem.W.fnOf d.name d.qual d.params d.body d.scope .none kV doc pm an cdv ct) ⟨us, []⟩ = pure (ps.zip us))
    (h : DSs G ⟨N, d.scope, k, true, true, fx⟩ d.body body) : MkO G (k + 1) cl np n body := by
  obtain ⟨fd, Fd⟩ := hd
  subst h1 h2
  exact ⟨C, _, fd, ps, rfl, hm, hk, Fd.bindsN (fun kV doc pm an cdv ct us hl => hb kV doc pm an cdv ct us hl), fn_initO Fd S hfx h⟩
theorem SsOk.up {x dx : Addr} {o1 o2 : HO} (nx : H x = none) (ndx : H dx = none) : ∀ {ss : List Slot} {vs : List V} {O : List Addr}, SsOk G F H ss vs O → SsOk G F (upd (upd H dx o1) x o2) ss vs O ∧ x ∉ O
  | _, _, _, .nil => ⟨.nil, fun h => by cases h⟩
  | _, _, _, .sh r t => ⟨.sh r (SsOk.up (o1 := o1) (o2 := o2) nx ndx t).1, (SsOk.up (o1 := o1) (o2 := o2) nx ndx t).2⟩
  | _, _, _, .ow (a := b) ⟨l1, ws, l2, l3⟩ n t => by
    obtain ⟨h1, h2⟩ := SsOk.up (o1 := o1) (o2 := o2) nx ndx t
    refine ⟨.ow ⟨l1, ws, ?_, l3⟩ n h1, fun h => ?_⟩
    · rw [upd_ne (ne_of_none l2 nx), upd_ne (ne_of_none l2 ndx)]; exact l2
    · rcases List.mem_cons.mp h with e | h
      · subst e; rw [nx] at l2; cases l2
      · exact h2 h
theorem de_makeO {cl : Str} {k np n : Nat} {body : M Fl} {p : Pos} {os : List Bool} (Mi : MkO G k cl np n body) (hk : k + 1 ≤ c.k) (hc : c.cm = true) (h : chkG c cl = true) (ha : DA G c (a :: es) fs) (hn : os.length + 1 = np) (hs : (a :: es).all noStar = true) :
    DE G c (.Call (.Name cl p) (a :: es) [] pos) (makeO cl body n os fs) := fun X xa gd W tk => by
  obtain ⟨C, f, fd, ps, el, hm, M0, hb, F0⟩ := Mi.ex
  obtain ⟨h1, h2, h3⟩ := chkG_ok h gd
  rw [List.all_cons, Bool.and_eq_true] at hs
  have F1 : FnOk X.prog X.w X.K X.mg X.base (L2.CX X.prog X.w) k f fd ps (spMkO G cl np n body) := by rw [gd.prog, gd.w, gd.K, gd.mg, gd.base]; exact F0
  have M1 : Mk X.K C f := by rw [gd.K]; exact M0
  refine ⟨fun pins s σ H Q I q => ?_⟩
  refine wpAny_Call_Name_kw (ld_glob I h1 (by rw [gd.mg]; exact hm) ?_ h2)
  obtain ⟨B, F, e, o, pp⟩ := q
  have q2 : rdA G xa c.fx W (argsM fs) σ H fun vs H1 => ∀ x dx, H1 x = none → H1 dx = none → dx ≠ x → spMkO G cl np n body (.ref x :: vs) (upd (upd H1 dx (.own x)) x (.ins C dx [])) (fun v H2 => v = .non ∧ Q (.ref x) H2) (WE W σ) := by
    refine (p_bal o pp).imp fun _ _ H1 _ _ _ q xs rv => ?_
    obtain ⟨F1, e1, rs, s1, o1, k1, l1, p1⟩ := q xs rv
    obtain ⟨F2, e2, as, s2, o2, k2, l2, p2⟩ := p_frzO o1 k1 p1
    dsimp only at p2
    intro x dx nx ndx ne
    have fx0 : F2 x = none := o2.same.free nx
    have kp : ∀ b u, H1 b = some u → (upd (upd H1 dx (.own x)) x (.ins C dx [])) b = some u := fun b u z => by
      rw [upd_ne (ne_of_none z nx), upd_ne (ne_of_none z ndx)]; exact z
    by_cases hg : as.all (okO e2) = true ∧ (ixO as).Nodup
    · rw [if_pos hg] at p2
      obtain ⟨O, so, hO⟩ := ss_of o2 k2 hg.1 hg.2
      have sl := so.len
      rw [List.length_map] at sl
      have npx : xs.length + 1 = np := by rw [← sl, l2, hn]
      obtain ⟨so2, xO⟩ := SsOk.up (o1 := .own x) (o2 := .ins C dx []) nx ndx so
      refine ⟨F2, as.map (slO e2), x, C, dx, xs, O, rfl, by rw [List.length_cons]; exact npx, fun b u z => kp b u (o2.same b u z), fx0, upd_same, hm, so2, xO, ?_⟩
      have toE : ∀ {F' H' : Hp}, ExtO (x :: O) F2 (upd (upd H1 dx (.own x)) x (.ins C dx [])) F' H' → ExtO O F2 H1 F' H' := fun {F' H'} z =>
        ⟨z.sF, z.s, fun b u q nO => z.kH b u (kp b u q) (fun hm => by
          rcases List.mem_cons.mp hm with e | hm
          · exact ne_of_none q nx e
          · exact nO hm), fun b z1 z2 nO => by
          obtain ⟨u, hu⟩ : ∃ u, H1 b = some u := by
            cases q : H1 b with
            | none => exact absurd q z2
            | some u => exact ⟨u, rfl⟩
          exact z.nF b z1 (ne_none (kp b u hu)) (fun hm => by
            rcases List.mem_cons.mp hm with e | hm
            · exact ne_of_none hu nx e
            · exact nO hm)⟩
      have okB : ∀ {F' H' : Hp} {e' e3 : List Slot}, ExtO (x :: O) F2 (upd (upd H1 dx (.own x)) x (.ins C dx [])) F' H' → BackAt G F' H' (as.map (slO e2)) xs e' → backO e' as 1 e2 = some e3 → Ok G xa c.fx _ F' H' _ e3 := fun {F' H' e' e3} z hlent hbk => by
        obtain ⟨b1, b2⟩ := back_at hbk hg.2
        refine o2.extO (toE z) (fun a ha => by obtain ⟨i, _, w⟩ := hO a ha; exact ⟨i, w⟩) b1 fun j s hj => ?_
        by_cases hji : j ∈ ixO as
        · right
          obtain ⟨xs', hx'⟩ := ix_lt hg.1 j hji
          have jl : j < e2.length := (List.getElem?_eq_some_iff.mp hx').1
          obtain ⟨q, ys, q1, q2, q3⟩ := (b2 j).2 hji jl
          rw [hj] at q3
          cases q3
          obtain ⟨v', v1, v2⟩ := as_at k2 q1
          obtain ⟨a, rfl, lt, w⟩ := own_at o2 v2 hx'
          have hss : (as.map (slO e2))[q]? = some (.ow xs') := by rw [List.getElem?_map, q1]; simp [slO, hx']
          obtain ⟨v3, w1, w2⟩ := so.at_ hss
          rw [v1] at w1
          cases w1
          rcases w2 with ⟨_, z, _⟩ | ⟨a', _, _, z, _, m⟩
          · cases z
          · cases z
            exact ⟨a, ys, xs', v2, hx', m, rfl, hlent q a xs' hss v1 ys (by rw [← q2]; congr 1; omega)⟩
        · left
          rw [(b2 j).1 hji] at hj
          refine ⟨hj, fun a w hm => ?_⟩
          obtain ⟨i, hi, wi⟩ := hO a hm
          have : j = i := Classical.byContradiction fun ne => o2.dj j i a ne w wi
          subst this
          exact hji hi
      have ln : as.length + 1 = np := by rw [← npx, sl]
      rw [ln] at p2
      cases hb2 : body (.ob cl [] :: as.map (slO e2) ++ List.replicate (n - np) .un) with
      | st => rw [hb2] at p2; exact p2.elim
      | ex c' fs' e' =>
        rw [hb2] at p2
        dsimp only at p2
        cases hbk : backO e' as 1 e2 with
        | none => rw [hbk] at p2; exact p2.elim
        | some e3 =>
          rw [hbk] at p2
          intro F' H' cls d z n hlent
          exact p2 F' H' cls d z.sF (okB z hlent hbk) n
      | ok fl e' =>
        rw [hb2] at p2
        cases fl with
        | bk => exact p2.elim
        | ct => exact p2.elim
        | rt r => exact p2.elim
        | nx =>
          dsimp only at p2
          cases h0 : obD e'[0]? with
          | none => rw [h0] at p2; exact p2.elim
          | some d0 =>
            rw [h0] at p2
            dsimp only at p2
            cases hbk : backO e' as 1 e2 with
            | none => rw [hbk] at p2; exact p2.elim
            | some e3 =>
              rw [hbk] at p2
              simp only [h0]
              intro F' H' z rp hlent
              exact ⟨trivial, p2 F' H' z.sF (okB z hlent hbk) _ rp⟩
    · rw [if_neg hg] at p2
      exact p2.elim
  refine PySem.W.callWith_K (h₀ := X.base) I.ok.mod.kin M1.kp (thn ((ha X xa gd W tk).run pos pins s σ H _ I q2) fun us s1 ⟨vs, H1, I1, r, q⟩ => ⟨I1.kIn, ?_⟩) (noStar_ok hs.1) (noStar_any hs.2)
  exact run_makeS M1 F1 ((gd.room hc).mono hk) (by rw [gd.K]; exact hb) (passAt tk σ) I1 r q
end
end DL
namespace DL
open PySem PySem.Spec L2
open PyProof.Rows hiding St
set_option autoImplicit false
@[simp] theorem obD_1 {c : Str} {fs : Fds} : obD (some (.ob c fs)) = some (.ins c fs) := rfl
@[simp] theorem obD_2 {d : D} : obD (some (.sh d)) = some d := rfl
@[simp] theorem e_makeO {cl : Str} {body : M Fl} {n : Nat} {os : List Bool} {fs : List (M RV)} {e : List Slot} : makeO cl body n os fs e = match argsM fs e with
  | .ok rs e' => (match frzO os rs e' with
    | .ok as e => if as.all (okO e) = true ∧ (ixO as).Nodup then (match body (.ob cl [] :: as.map (slO e) ++ List.replicate (n - (as.length + 1)) .un) with
      | .ok .nx e' => (match obD e'[0]? with
        | some d => (match backO e' as 1 e with
          | some e2 => .ok (.sh d) e2
          | none => .st)
        | none => .st)
      | .ex c fs e' => (match backO e' as 1 e with
        | some e2 => .ex c fs e2
        | none => .st)
      | _ => .st) else .st
    | .ex c fs e' => .ex c fs e'
    | .st => .st)
  | .ex c fs e' => .ex c fs e'
  | .st => .st := by
  unfold makeO
  (rw [e_bnd]) <;> (cases argsM fs e with
  | ok rs e' => (dsimp only) <;> ((rw [e_bnd]) <;> (cases frzO os rs e' <;> rfl))
  | _ => rfl)
end DL
set_option Elab.async false
set_option linter.all false
set_option maxRecDepth 100000
set_option maxHeartbeats 4000000
/-! isinstance of a caught error that has a dict of its own -/
noncomputable section
namespace DL
open PySem PySem.Spec L2
open PyProof.Rows hiding St
set_option autoImplicit false
theorem call_isED {X : Cx} {a D d : Addr} {oe : Obj} {pn : List (Addr × Obj)} {cv : Value} {b : Bool} (C : ExcC X.K D) (hk : PySem.W.kitOne X.K (.ref D) cv = some b) (hz : Zc (.ref D) (some d) oe) (hf : ∃ vs, oe.data = .fields vs) : CallR (X.suite a ((a, oe) :: pn)) (.builtin "isinstance")
    (fun xs H Q => ∃ (c : V) (fs : List (Str × V)), xs = [.ref a, c] ∧ (∀ u, RelV c u → u = cv) ∧ H d = some (.xd fs) ∧ fs.lookup ("__class__" : Str) = none ∧ Q (.bl b) H) := by
  intro pins s σ H xs us Q I r h
  obtain ⟨c, fs, rfl, hcv, hd, hl, q⟩ := h
  cases r with
  | cons rx rr =>
    cases rr with
    | cons rt rr =>
      cases rr
      cases rx
      have ec := hcv _ rt
      subst ec
      obtain ⟨hget, _⟩ := I.pin (a, oe) (List.mem_append.mpr (.inl List.mem_cons_self))
      obtain ⟨vs, hv⟩ := hf
      have hx : ObjOk X.prog X.w H s.heap d (.xd fs) := I.hok d _ hd
      obtain ⟨mA, hns, hr⟩ := hx
      obtain ⟨od, ho, _⟩ := lookIn_ns hns
      have J : PySem.W.InstAt s.heap a oe D (some od) := ⟨hget, hz.1, by unfold PySem.W.notCls; rw [hv] <;> rfl, by rw [hz.2]; exact ho⟩
      have known : (PySem.W.clsIn X.K D).isSome = true := by
        obtain ⟨cd, hc, _⟩ := PySem.W.any_some C.hd
        rw [hc]; rfl
      exact PySem.W.kia_one (PySem.W.kitx_exc known C.hg C.hk C.hs C.ha C.hn C.ht C.hm) I.kIn J hk (fun z => nomatch z) fun tk => ⟨.bl b, H, I.kept (t' := tk) fun _ _ z => z, rfl, q⟩
/-- .. for every class of errors -/
theorem hcl_of {G : Gb} {t : Str} {cv : Value} (h : ∀ C, G.mg "Clash" = some (.ref C) → ExcC G.K C ∧ PySem.W.kitOne G.K (.ref C) cv = some (isSub "Clash" t)) : ∀ C, G.mg "Clash" = some (.ref C) → ∀ (X : Cx) a d oe pn, X.K = G.K → Zc (.ref C) (some d) oe → (∃ vs, oe.data = .fields vs) → CallR (X.suite a ((a, oe) :: pn)) (.builtin "isinstance") (fun xs H Q => ∃ (c : V) (fs : List (Str × V)), xs = [.ref a, c] ∧ (∀ u, RelV c u → u = cv) ∧ H d = some (.xd fs) ∧ fs.lookup ("__class__" : Str) = none ∧ Q (.bl (isSub "Clash" t)) H) := fun C hC X a d oe pn e hz hf => by
  obtain ⟨h1, h2⟩ := h C hC
  exact call_isED (by rw [e]; exact h1) (by rw [e]; exact h2) hz hf
end DL
noncomputable section
namespace DL
open PySem PySem.Spec L2
open PyProof.Rows hiding St
set_option autoImplicit false
def excCB (K : PySem.W.Frag) (D : Addr) : Bool := decide (PySem.W.findIn K (.ref D) "__getattribute__" = some (some (.builtin "BaseException.__getattribute__"))) && (decide (PySem.W.findIn K (.ref D) "__getattr__" = some none) && (decide (PySem.W.subIn K (.ref D) (.type "BaseException") = some true) && (PySem.W.hasDictIn K D && (decide (PySem.W.findIn K (.ref D) "__class__" = some (some (.builtin "object.__class__"))) &&
  (decide (PySem.W.specialIn K (.builtin "object.__class__") "__get__" = some (some (.builtin "getset_descriptor.__get__"))) && (decide (PySem.W.takesIn K (.builtin "object.__class__") = some true) && decide (PySem.W.mroIn K D (.type "object") = some true)))))))
theorem excCB_ok {K : PySem.W.Frag} {D : Addr} (h : excCB K D = true) : ExcC K D := by
  unfold excCB at h
  simp only [Bool.and_eq_true, decide_eq_true_eq] at h
  obtain ⟨h1, h2, h3, h4, h5, h6, h7, h8⟩ := h
  exact ⟨h1, h2, h3, h4, h5, h6, h7, h8⟩
/-- what isinstance asks of the class that is named x, if there is one -/
def IsOne (G : Gb) (x t : Str) (cv : Value) : Prop := ∀ C, G.mg x = some (.ref C) → ExcC G.K C ∧ PySem.W.kitOne G.K (.ref C) cv = some (isSub x t)
theorem is_y {G : Gb} {x t : Str} {C1 : Addr} {cv : Value} (g1 : G.mg x = some (.ref C1)) (e1 : excCB G.K C1 = true) (e2 : PySem.W.kitOne G.K (.ref C1) cv = some (isSub x t)) : IsOne G x t cv := fun C hm => by
  rw [g1] at hm; cases hm; exact ⟨excCB_ok e1, e2⟩
theorem is_n {G : Gb} {x t : Str} {cv : Value} (g1 : G.mg x = none) : IsOne G x t cv := fun C hm => by rw [g1] at hm; cases hm
structure IsAll (G : Gb) (t : Str) (cv : Value) : Prop where
  b : IsOne G "BadChart" t cv
  m : IsOne G "TooMany" t cv
  c : IsOne G "Clash" t cv
section
variable {G : Gb} {c : Cp} {pos : Pos}
theorem IsAll.isx {t : Str} {cv : Value} (T : IsAll G t cv) : IsX G t cv := ⟨fun c C hc hm => by
  rcases hc with rfl | rfl
  · exact T.b C hm
  · exact T.m C hm⟩
theorem de_isxO {t n : Str} {i : Nat} {p p2 p3 : Pos} {C : Addr} (T : IsAll G t (.ref C)) (hC : G.mg t = some (.ref C)) (hN : chkV c i n = true) (h : chkG c "isinstance" = true) (hm : G.mg "isinstance" = none) (hx : chkG c t = true) :
    DE G c (.Call (.Name "isinstance" p) [.Name n p3, .Name t p2] [] pos) (isxE t i) :=
  de_isx (tv := .ref C) T.isx (hcl_of T.c) hN h hm (fun X xa g => by
    obtain ⟨x1, x2, x3⟩ := chkG_ok hx g
    exact pe_glob x1 (by rw [g.mg]; exact hC) rfl x2) fun u r => by cases r; rfl
theorem de_isxB {t n : Str} {T' : String} {i : Nat} {p p2 p3 : Pos} (T : IsAll G t (.type T')) (hmx : G.mg t = none) (hv : bootBuiltins t = some (.type T')) (hN : chkV c i n = true) (h : chkG c "isinstance" = true) (hm : G.mg "isinstance" = none) (hx : chkG c t = true) :
    DE G c (.Call (.Name "isinstance" p) [.Name n p3, .Name t p2] [] pos) (isxE t i) :=
  de_isx (tv := .ty T') T.isx (hcl_of T.c) hN h hm (fun X xa g => by
    obtain ⟨x1, x2, x3⟩ := chkG_ok hx g
    exact pe_bltn x1 (by rw [g.mg]; exact hmx) hv rfl x3 x2) fun u r => by cases r; rfl
theorem boot_VE : bootBuiltins "ValueError" = some (.type "ValueError") := by decide +kernel
end
end DL
set_option Elab.async false
set_option linter.all false
set_option maxRecDepth 100000
set_option maxHeartbeats 4000000
/-! several except clauses, some with a name -/
namespace DLX
open PySem PySem.Spec PyProof.Rows L2
/-- a clause: its class, the slot of its name, what its suite does -/
abbrev Cl := Value × Option Nat × (Addr → Value → Option Addr → TS)
/-- the clause's name takes the error .. -/
def nmd (o : Option Nat) (a : Addr) (σ : L2.St) : L2.St := o.elim σ fun i => σ.set i (some (.ref a))
/-- .. and is out behind the suite -/
def outE (o : Option Nat) (D : Ends) : Ends := o.elim D fun i => ⟨fun σ => D.nx (σ.set i none), D.rt, fun σ => D.bk (σ.set i none), fun σ => D.ct (σ.set i none)⟩
def wMix (K : PySem.W.Frag) (Wout : WX) (D : Ends) : List Cl → WX
  | [], cls, d, σ, H => Wout cls d σ H
  | (c, o, ts) :: r, cls, d, σ, H => ∃ b, PySem.W.exmOne K cls c = some b ∧ cond b (∀ a, H a = none → ts a cls d (outE o D) (nmd o a σ) H) (wMix K Wout D r cls d σ H)
/-- a clause's own name -/
def OwnN (X : Cx) (on : Option (Str × Nat)) : Prop := ∀ n i, on = some (n, i) → X.N.Nodup ∧ X.N[i]? = some n ∧ X.env.kindOf n = some .local
inductive HdsM (X : Cx) : List ExceptHandler → List Cl → Prop
  | nil : HdsM X [] []
  | cons {x : Str} {c : Value} {on : Option (Str × Nat)} {ts : Addr → Value → Option Addr → TS} {b0 : Stmt} {suite : List Stmt} {np p2 : Pos} {hds : List ExceptHandler} {l : List Cl} (own : OwnN X on) (hc : Names X x c)
      (runs : ∀ (a : Addr) (oe : Obj) (cls : Value) (d : Option Addr) (pn : List (Addr × Obj)), Zc cls d oe → (∃ vs, oe.data = .fields vs) → PSs (X.suite a ((a, oe) :: pn)) (b0 :: suite) (ts a cls d)) (r : HdsM X hds l) :
      HdsM X (.ExceptHandler (some (.Name x np)) (on.map Prod.fst) (b0 :: suite) p2 :: hds) ((c, on.map Prod.snd, ts) :: l)
section
variable {X Y : Cx} {pins pins2 : List (Addr × Obj)} {D : Ends} {s : Shared}
/-- an end told of one block is an end told of the other -/
theorem sp_over (k : ∀ {σ H}, Inv Y pins2 σ H s → Inv X pins σ H s) : ∀ {f : Flow}, SP Y pins2 D f s → SP X pins D f s
  | .next, ⟨σ, H, I, q⟩ | .brk, ⟨σ, H, I, q⟩ | .cont, ⟨σ, H, I, q⟩ => ⟨σ, H, k I, q⟩
  | .ret _, ⟨v, σ, H, I, r, q⟩ => ⟨v, σ, H, k I, r, q⟩
/-- .. and the clause's name goes out -/
theorem sp_out {M : Model} {A : Around} {E : Value → Shared → Prop} {i : Nat} {n : Str} {pos : Pos} (k : ∀ {σ H}, Inv Y pins2 σ H s → Inv X pins σ H s) (own : OwnN X (some (n, i))) : ∀ {f : Flow}, SP Y pins2 (outE (some i) D) f s →
    wpAny M A (do bindName X.env n .none; unbindBehindTheSuite X.env n pos) (fun _ s2 => SP X pins D f s2) E s := by
  obtain ⟨u, v, w⟩ := own n i rfl
  rintro (_ | _ | _ | z) q
  · obtain ⟨σ, H, I, q⟩ := q
    exact gone_ok (k I) u v w fun _ J => ⟨_, H, J, q⟩
  · obtain ⟨σ, H, I, q⟩ := q
    exact gone_ok (k I) u v w fun _ J => ⟨_, H, J, q⟩
  · obtain ⟨σ, H, I, q⟩ := q
    exact gone_ok (k I) u v w fun _ J => ⟨_, H, J, q⟩
  · obtain ⟨y, σ, H, I, r, q⟩ := q
    exact gone_ok (k I) u v w fun _ J => ⟨y, _, H, J, r, q⟩
/-- a def with a frame of its own -/
structure Stands (X : Cx) : Prop where
  st : X.stack = X.env :: X.outer
  fr : X.env.frame = some X.env.locals
theorem Stands.frs (t : Stands X) : frs X.stack = X.env.locals :: X.fs := by
  rw [t.st]
  unfold L2.frs
  rw [List.filterMap_cons, t.fr]
  rfl
/-- an error in the hands of its try: from the state without it -/
structure Met (X : Cx) (B : Heap) (pins : List (Addr × Obj)) (σ : L2.St) (H : Hp) (a : Addr) (cls : Value) (d : Option Addr) (s : Shared) : Prop where
  src : ∃ s0, Inv X pins σ H s0 ∧ (∀ b o, s0.heap.get? b = some o → b ∉ frs X.stack → B.get? b = some o) ∧ s0.heap.UpToSlots s.heap ∧ s.os = s0.os
  bare : AllBare s.gens
  no : H a = none
  fly : HandSPX.FlyingZ B X.stack a (Zc cls d) s.heap
variable {B : Heap} {σ : L2.St} {H : Hp} {a : Addr} {cls : Value} {d : Option Addr} {W : WX}
theorem Met.inv (m : Met X B pins σ H a cls d s) : Inv X pins σ H s := by
  obtain ⟨s0, I, g, up, os⟩ := m.src
  exact I.landed g m.fly.1 up os m.bare
theorem Met.on (m : Met X B pins σ H a cls d s) {h : Heap} (up : s.heap.UpToSlots h) (fly : HandSPX.FlyingZ B X.stack a (Zc cls d) h) : Met X B pins σ H a cls d { s with heap := h } := by
  obtain ⟨s0, I, g, up0, os⟩ := m.src
  exact ⟨⟨s0, I, g, up0.trans up, os⟩, m.bare, m.no, fly⟩
theorem Met.suite (m : Met X B pins σ H a cls d s) (t : Stands X) : ∃ oe, s.heap.get? a = some oe ∧ Zc cls d oe ∧ (∃ vs, oe.data = .fields vs) ∧ Inv (X.suite a ((a, oe) :: (X.pn ++ pins))) [] σ H s := by
  obtain ⟨oe, vs, e, z, dt⟩ := m.fly.there
  have far : a ∉ X.env.locals :: X.fs := by
    intro y
    rw [← t.frs] at y
    obtain ⟨_, o2, e2, q⟩ := m.fly.2.2.1.mem y
    cases e.symm.trans e2
    exact q vs dt
  rw [List.mem_cons, not_or] at far
  exact ⟨oe, e, z, ⟨vs, dt⟩, m.inv.suite e dt m.no far.1 far.2⟩
/-- a clause asks whether the error is its own -/
theorem Met.asks (m : Met X B pins σ H a cls d s) (t : Stands X) {x : Str} {c : Value} {np p2 : Pos} {b : Bool} {R : Result → Shared → Prop} (hc : Names X x c) (hb : PySem.W.exmOne X.K cls c = some b) (q : R (.ok (if b = true then .brk else .next)) s) :
    codeAny (model X.prog X.w) (X.A.mark (some (.ref a))) (.handlers (.ref a) [.ExceptHandler (some (.Name x np)) none [] p2] X.env) R s := by
  obtain ⟨oe, e, z, _, S⟩ := m.suite t
  have kind : PySem.W.Looks (model X.prog X.w) s.heap (typeOf (.ref a)) cls := by
    intro A Q E s2 k q2
    exact wpAny_typeOf_ref (k _ _ e) (by rw [z.1]; exact q2)
  have told := (PySem.W.exm_one (M := model X.prog X.w) m.inv.kIn kind hb).here (A := X.A.mark (some (.ref a))) (E := notedBy (model X.prog X.w) (X.A.mark (some (.ref a))) X.env fun x s2 => R (.error x) s2) (Q := fun b s2 => R (.ok (if b = true then .brk else .next)) s2) q
  refine codeAny_handlers_test ?_
  obtain ⟨hg, hd, h | ⟨h, hv, hn⟩⟩ := hc
  · exact ld_glob S hg h told hd
  · exact ld_blt S hg h hv told hn hd
/-- no clause is left -/
theorem Met.leaves (m : Met X B pins σ H a cls d s) (t : Stands X) (tk : Takes X W) {Q : Flow → Shared → Prop} (w : W cls d σ H) : wpAny (model X.prog X.w) X.A (handleBy (.ref a) X.env []) Q X.xe s := by
  obtain ⟨s0, I, g, up, os⟩ := m.src
  obtain ⟨_, _, _, oe, vs, T, _, _, e, _, dt, e1, _⟩ := id m.fly
  have goes : wpAny (model X.prog X.w) X.A (setFlight (.ref a) X.env.frame) (fun _ s2 => wpAny (model X.prog X.w) X.A (throw (.ref a) : Sem Flow) Q X.xe s2) X.xe s := by
    rw [t.fr]
    refine HandSPX.setFlight_upZ m.fly ?_
    intro h held up2
    refine wpAny_throw (tk _ _ ?_)
    exact ⟨a, B, s0, pins, σ, H, cls, d, rfl, I, g, up.trans up2, Or.inr (Or.inr held), m.no, os, m.bare, w⟩
  refine wpAny_handleBy_nil ?_
  unfold PySem.passOn
  refine wpAny_bind (wpAny_field e dt e1 ?_)
  have tb : (Value.ref T == Value.none) = false := by simp
  rw [tb, if_neg Bool.false_ne_true]
  first | exact wpAny_bind goes | exact wpAny_bind (wpAny_pure (wpAny_bind goes))
/-- the clauses, one behind the other -/
theorem Met.clauses (m : Met X B pins σ H a cls d s) (t : Stands X) (ok : X.Ok) (tk : Takes X W) {hds : List ExceptHandler} {l : List Cl} (hh : HdsM X hds l) : wMix X.K W D l cls d σ H → wpAny (model X.prog X.w) X.A (handleBy (.ref a) X.env hds) (SP X pins D) X.xe s := by
  induction hh with
  | nil => exact m.leaves t tk
  | @cons x c on ts b0 suite np p2 hds l own hc runs r ih =>
    rintro ⟨b, hb, w⟩
    refine wpAny_handleBy_cons (m.asks t hc hb ?_) (by intro z; cases z)
    cases b with
    | false => exact ih w
    | true =>
      have w := w a m.no
      cases on with
      | none =>
        refine codeAny_handlers_suite (HandSPX.lands_againZ m.fly fun h fly up => ?_)
        obtain ⟨oe, _, z, fd, S⟩ := (m.on up fly).suite t
        exact wpAny_mono ((runs a oe cls d _ z fd).run [] _ _ H D S w) (fun f _ q => sp_over (fun I => I.unsuite ok) q) fun _ _ z => z.elim
      | some p =>
        obtain ⟨n, i⟩ := p
        obtain ⟨hN, hi, hl⟩ := own n i rfl
        refine codeAny_handlers_suite_as (HandSPX.lands_againZ m.fly fun h fly up => ?_)
        obtain ⟨oe, _, z, fd, S⟩ := (m.on up fly).suite t
        refine store_ok (X := X.suite a ((a, oe) :: (X.pn ++ pins))) (v := .ref a) S hN hi (Or.inl hl) rfl (fun s5 S5 => ?_) (Or.inr hl)
        exact wpAny_mono ((runs a oe cls d _ z fd).run [] s5 _ H _ S5 w) (fun f _ q => sp_out (fun I => I.unsuite ok) own q) fun _ _ z => z.elim
variable {body : List Stmt} {h0 : ExceptHandler} {hds : List ExceptHandler} {l : List Cl} {pos : Pos} {tb : WX → TS}
/-- what the body's error meets -/
def onward (X : Cx) (pins : List (Addr × Obj)) (D : Ends) (hds : List ExceptHandler) (e : Value) (s : Shared) : Prop :=
  wpAny (model X.prog X.w) X.A (noteFrame e X.env) (fun _ s => wpAny (model X.prog X.w) X.A (setFlight e none) (fun _ s => wpAny (model X.prog X.w) X.A (handleBy e X.env hds) (SP X pins D) X.xe s) X.xe s) X.xe s
theorem ps_try_mix (t : Stands X) (tk : Takes X W) (hh : HdsM X (h0 :: hds) l)
    (hb : ∀ (W2 : WX) (pn : List (Addr × Obj)) (xe : Value → Shared → Prop), Takes (X.tr pn xe) W2 → PassesOwn (model X.prog X.w) X.A X.env xe → PSs (X.tr pn xe) body (tb W2)) :
    PS X (.Try body (h0 :: hds) [] [] pos) (fun D σ H => tb (wMix X.K W D l) D σ H) := by
  constructor
  intro pins s σ H D I w
  have ok := I.ok
  have takes : Takes (X.tr (X.pn ++ pins) (onward X pins D (h0 :: hds))) (wMix X.K W D l) := by
    rintro _ s1 ⟨a, B, s0, pins1, σ1, H1, cls, d, rfl, J, g, up, sky, no, os, bare, w1⟩
    refine Sky.land Zc.steady (ok.frames.trans (congrArg some t.st)) t.fr (by rw [← t.st]; exact sky) ?_
    intro h fly up2
    have m : Met X B pins σ1 H1 a cls d { s1 with heap := h } := ⟨⟨s0, J.ofTry ok, g, up.trans up2, os⟩, bare, no, by rw [t.st]; exact fly⟩
    exact m.clauses t ok tk hh w1
  have run := (hb _ _ _ takes PassesOwn.looking).run [] s σ H D (I.toTry _) w
  refine wpAny_Try_except (wpAny_mono run ?_ fun _ _ q => q)
  rintro (_ | _ | _ | z) s1 q
  · exact wpAny_execs_nil (sp_over (X := X) (pins := pins) (f := .next) (fun J => J.ofTry ok) q)
  · exact sp_over (X := X) (pins := pins) (f := .brk) (fun J => J.ofTry ok) q
  · exact sp_over (X := X) (pins := pins) (f := .cont) (fun J => J.ofTry ok) q
  · exact sp_over (X := X) (pins := pins) (f := .ret z) (fun J => J.ofTry ok) q
end
end DLX
noncomputable section
namespace DL
open PySem PySem.Spec L2
open PyProof.Rows hiding St
set_option autoImplicit false
abbrev Clx := Str × Option Nat × M Fl
def catchX : List Clx → Str → Option Fds → M Fl
  | [], c, fs => fun e => .ex c fs e
  | (t, none, s) :: r, c, fs => fun e => if known c = true then (if isSub c t = true then (match s e with
    | .ok .nx e2 => .ok .nx (e2.map unx)
    | _ => .st) else catchX r c fs e) else .st
  | (t, some i, s) :: r, c, fs => fun e => if (known c && okF fs) = true then (if isSub c t = true then (match s (e.set i (.ex c (fs.getD []))) with
    | .ok .nx e2 => .ok .nx ((e2.set i .un).map unx)
    | _ => .st) else catchX r c fs e) else .st
def tryX (body : M Fl) (hs : List Clx) : M Fl := fun e => match body e with
  | .ex c fs e' => catchX hs c fs e'
  | o => o
inductive CatchX (G : Gb) (c : Cp) : List ExceptHandler → List Clx → Prop
  | nil : CatchX G c [] []
  | one {t : Str} {b0 : Stmt} {suite : List Stmt} {f : M Fl} {np pos' : Pos} {hds : List ExceptHandler} {l : List Clx} (T : Nm G t) (h : chkG c t = true) (hs : DSs G { c with cm := false } (b0 :: suite) f) (r : CatchX G c hds l) :
      CatchX G c (.ExceptHandler (some (.Name t np)) none (b0 :: suite) pos' :: hds) ((t, none, f) :: l)
  | as {t n : Str} {i : Nat} {b0 : Stmt} {suite : List Stmt} {f : M Fl} {np pos' : Pos} {hds : List ExceptHandler} {l : List Clx} (T : Nm G t) (h : chkG c t = true) (hl : chkL c i n = true) (hlo : decide (c.sc.names.lookup n = some .local) = true) (hs : DSs G { c with cm := false } (b0 :: suite) f) (r : CatchX G c hds l) :
      CatchX G c (.ExceptHandler (some (.Name t np)) (some n) (b0 :: suite) pos' :: hds) ((t, some i, f) :: l)
section
variable {G : Gb} {c : Cp} {xa : XA} {fx : List Nat} {B : Bs} {F H F' H' F1 : Hp} {σ : St} {e : List Slot} {X : Cx} {pos : Pos} {body : List Stmt} {fb : M Fl}
theorem catch_mix (gd : Good G c none X) : ∀ {hds : List ExceptHandler} {l : List Clx}, CatchX G c hds l →
    ∃ us : List DLX.Cl, DLX.HdsM X hds us ∧ ∀ (D : Ends) (B : Bs) (F : Hp) (cn : Str) (fs : Option Fds) (e : List Slot) (W : WX), PostS G none c.fx W B D F (catchX l cn fs e) → ∀ F' H' σ' cls d, Same F F' → Ok G none c.fx B F' H' σ' e → ExOk G F' cn fs cls d → DLX.wMix X.K W D us cls d σ' H' := by
  intro hds l hk
  induction hk with
  | nil => exact ⟨[], .nil, fun D B F cn fs e W p F' H' σ' cls d s o x => p F' H' σ' cls d s o x⟩
  | @one t b0 suite f np pos' hds l T h hs r ih =>
    obtain ⟨us, h1, h2⟩ := ih
    obtain ⟨u, gt, hx⟩ := T.ex
    obtain ⟨g1, g2, g3⟩ := chkG_ok h gd
    refine ⟨(u, none, fun a cls d => rdS G (some (a, cls, d)) c.fx (fun _ _ _ _ => False) f) :: us, .cons (on := none) (fun _ _ z => nomatch z) ⟨g1, g2, .inl (by rw [gd.mg]; exact gt)⟩ (fun a oe cls d pn hz hf => hs _ _ (good_suite gd hz hf) _ takesF) h1, ?_⟩
    intro D B F cn fs e W p F' H' σ' cls d s o x
    obtain ⟨C, ec, m, hv⟩ := exv_of x
    subst ec
    unfold catchX at p
    by_cases hk : known cn = true
    · rw [if_pos hk] at p
      refine ⟨isSub cn t, by rw [gd.K]; exact hx cn C hk m, ?_⟩
      cases hb : isSub cn t with
      | false =>
        rw [hb, if_neg Bool.false_ne_true] at p
        exact h2 D B F cn fs e W p F' H' σ' _ d s o x
      | true =>
        rw [hb, if_pos rfl] at p
        intro a na
        refine ⟨B, F', e, o.toX fun _ _ _ _ _ z => slot_none z, ?_⟩
        cases q : f e with
        | st => rw [q] at p; exact p.elim
        | ex _ _ _ => rw [q] at p; exact p.elim
        | ok fl e2 =>
          rw [q] at p
          cases fl with
          | nx => exact fun F2 H2 σ2 s2 o2 => p F2 H2 _ (s.trans s2) o2.unx
          | bk => exact p.elim
          | ct => exact p.elim
          | rt r => exact p.elim
    · rw [if_neg hk] at p
      exact p.elim
  | @as t n i b0 suite f np pos' hds l T h hl hlo hs r ih =>
    obtain ⟨us, h1, h2⟩ := ih
    obtain ⟨u, gt, hx⟩ := T.ex
    obtain ⟨g1, g2, g3⟩ := chkG_ok h gd
    obtain ⟨l1, l2, l3, l4, l5⟩ := chkL_ok hl
    have own : DLX.OwnN X (some (n, i)) := by
      intro n2 i2 z
      cases z
      exact ⟨by rw [gd.hN]; exact l2, by rw [gd.hN]; exact l1, by show X.env.scope.names.lookup n = _; rw [gd.sc]; exact of_decide_eq_true hlo⟩
    refine ⟨(u, some i, fun a cls d => rdS G (some (a, cls, d)) c.fx (fun _ _ _ _ => False) f) :: us, .cons (on := some (n, i)) own ⟨g1, g2, .inl (by rw [gd.mg]; exact gt)⟩ (fun a oe cls d pn hz hf => hs _ _ (good_suite gd hz hf) _ takesF) h1, ?_⟩
    intro D B F cn fs e W p F' H' σ' cls d s o x
    obtain ⟨C, ec, m, hv⟩ := exv_of x
    subst ec
    unfold catchX at p
    by_cases hk : (known cn && okF fs) = true
    · rw [if_pos hk] at p
      rw [Bool.and_eq_true] at hk
      have hv := hv hk.2
      refine ⟨isSub cn t, by rw [gd.K]; exact hx cn C hk.1 m, ?_⟩
      cases hb : isSub cn t with
      | false =>
        rw [hb, if_neg Bool.false_ne_true] at p
        exact h2 D B F cn fs e W p F' H' σ' _ d s o x
      | true =>
        rw [hb, if_pos rfl] at p
        intro a na
        refine ⟨B, F', _, o.catch l4 m hv, ?_⟩
        cases q : f (e.set i (.ex cn (fs.getD []))) with
        | st => rw [q] at p; exact p.elim
        | ex _ _ _ => rw [q] at p; exact p.elim
        | ok fl e2 =>
          rw [q] at p
          cases fl with
          | nx => exact fun F2 H2 σ2 s2 o2 => p F2 H2 _ (s.trans s2) ((o2.gone l4).unx)
          | bk => exact p.elim
          | ct => exact p.elim
          | rt r => exact p.elim
    · rw [if_neg hk] at p
      exact p.elim
theorem ds_tryX {h0 : ExceptHandler} {hds : List ExceptHandler} {l : List Clx} (ht : c.top = true) (hc : c.cm = true) (hb : DSs G c body fb) (hh : CatchX G c (h0 :: hds) l) :
    DS G c (.Try body (h0 :: hds) [] [] pos) (tryX fb l) := fun X xa gd W tk => by
  obtain ⟨s1, s2⟩ := gd.stk ht
  have exa : xa = none := gd.xn hc
  subst exa
  obtain ⟨us, h1, h2⟩ := catch_mix gd hh
  refine PS.weak (DLX.ps_try_mix (W := W) (tb := fun W' => rdS G none c.fx W' fb) ⟨s1, s2⟩ tk h1 fun W' pn xe tk' own => hb _ none (good_tr gd hc own) W' tk') fun D σ H ⟨B, F, e, o, p⟩ => ?_
  refine ⟨B, F, e, o, ?_⟩
  unfold tryX at p
  cases q : fb e with
  | st => rw [q] at p; exact p.elim
  | ok fl e' =>
    rw [q] at p
    cases fl with
    | nx => exact p
    | bk => exact p
    | ct => exact p
    | rt r => exact p
  | ex cn fs e' =>
    rw [q] at p
    exact h2 D B F cn fs e' W p
@[simp] theorem e_tryX {body : M Fl} {hs : List Clx} {e : List Slot} : tryX body hs e = match body e with
  | .ex c fs e' => catchX hs c fs e'
  | o => o := rfl
@[simp] theorem e_catXN {c : Str} {fs : Option Fds} {e : List Slot} : catchX [] c fs e = .ex c fs e := rfl
@[simp] theorem e_catXO {t c : Str} {s : M Fl} {r : List Clx} {fs : Option Fds} {e : List Slot} : catchX ((t, none, s) :: r) c fs e = if known c = true then (if isSub c t = true then (match s e with
    | .ok .nx e2 => .ok .nx (e2.map unx)
    | _ => .st) else catchX r c fs e) else .st := rfl
@[simp] theorem e_catXA {t c : Str} {i : Nat} {s : M Fl} {r : List Clx} {fs : Option Fds} {e : List Slot} : catchX ((t, some i, s) :: r) c fs e = if (known c && okF fs) = true then (if isSub c t = true then (match s (e.set i (.ex c (fs.getD []))) with
    | .ok .nx e2 => .ok .nx ((e2.set i .un).map unx)
    | _ => .st) else catchX r c fs e) else .st := rfl
end
end DL
set_option Elab.async false
set_option linter.all false
set_option maxRecDepth 100000
set_option maxHeartbeats 1000000
noncomputable section
namespace DL
open PySem PySem.Spec L2
open PyProof.Rows hiding St
set_option autoImplicit false
/-! ### two lists in a list that a name holds, lent to an object's making, then changed -/
structure Hand (G : Gb) (B : Bs) (F H : Hp) (σ : St) (e : List Slot) (hi : Nat) (xs ys : List D) (a0 a1 h : Addr) (w0 w1 : List V) : Prop where
  at_ : σ[hi]? = some (some (.ref h))
  hh : H h = some (.lst [.ref a0, .ref a1])
  h0 : H a0 = some (.lst w0)
  h1 : H a1 = some (.lst w1)
  r0 : RpL G F xs w0
  r1 : RpL G F ys w1
  nw : ∀ b, b = h ∨ b = a0 ∨ b = a1 → F b = none ∧ B.H b = none ∧ B.E b = none ∧ ∀ i, ¬ Own e σ i b
  n0 : h ≠ a0
  n1 : h ≠ a1
  n2 : a0 ≠ a1
section
variable {G : Gb} {c : Cp} {xa : XA} {fx : List Nat} {W : WX} {B : Bs} {F H F' H' F1 : Hp} {σ : St} {e : List Slot} {X : Cx} {pos : Pos} {D0 : Ends} {hi : Nat} {xs ys : List D} {a0 a1 h : Addr} {w0 w1 : List V}
theorem pe_name {i : Nat} {x : Str} {p : Pos} (hx : chkV c i x = true) (gd : Good G c xa X) : PE X (.Name x p) (tVar i) := by
  simp only [chkV, Bool.and_eq_true, decide_eq_true_eq] at hx
  obtain ⟨h1, h2, h3⟩ := visB_ok hx.2
  exact pe_var (i := i) (by rw [gd.hN]; exact hx.1) (by rw [gd.sc]; exact h1) h2 h3
theorem pe_listv {i : Nat} {x : Str} {p p2 : Pos} (hg : chkG c "list" = true) (hm : G.mg "list" = none) (hx : chkV c i x = true) (gd : Good G c xa X) : PE X (.Call (.Name "list" p) [.Name x p2] [] pos) (tCB (rList X.K) (tCons (tVar i) tNil)) := by
  obtain ⟨h1, h2, h3⟩ := chkG_ok hg gd
  exact pe_callTy (r := rList X.K) call_list_of h1 (by rw [gd.mg]; exact hm) PyProof.Rows.boot_list (pa_cons (pe_name hx gd) pa_nil) h3 h2 rfl rfl
theorem sh_lst {i : Nat} (o : Ok G xa fx B F H σ e) (hi : e[i]? = some (.sh (.lst xs))) : ∃ a w, σ[i]? = some (some (.ref a)) ∧ H a = some (.lst w) ∧ RpL G F xs w := by
  obtain ⟨s, hs⟩ := slot_there o hi
  obtain ⟨v, ev, r⟩ := o.sl i _ _ hi hs
  subst ev
  cases r with
  | lst q r => exact ⟨_, _, hs, o.same _ _ q, r⟩
theorem own_un {i j : Nat} {a : Addr} (h : Own (e.set i .un) (σ.set i (some (.ref a1))) j a) : Own e σ j a := by
  obtain ⟨q1, t, q2, q3⟩ := h
  by_cases hj : i = j
  · subst hj
    by_cases hl : i < e.length
    · rw [List.getElem?_set_self hl] at q2; cases q2; cases q3
    · rw [List.getElem?_eq_none (by simpa using hl)] at q2; cases q2
  · rw [List.getElem?_set_ne hj] at q1 q2
    exact ⟨q1, t, q2, q3⟩
/-- handed = [list(x), list(y)] -/
theorem hand_make {i0 i1 : Nat} {K : PySem.W.Frag} {D : Ends} (o : Ok G xa fx B F H σ e) (hf : hi ∉ fx) (hl : hi < e.length) (e0 : e[i0]? = some (.sh (.lst xs))) (e1 : e[i1]? = some (.sh (.lst ys)))
    (k : ∀ H' h a0 a1 w0 w1, Ok G xa fx B F H' (σ.set hi (some (.ref h))) (e.set hi .un) → Hand G B F H' (σ.set hi (some (.ref h))) (e.set hi .un) hi xs ys a0 a1 h w0 w1 → D.nx (σ.set hi (some (.ref h))) H') :
    tAsg (tLst (tCons (tCB (rList K) (tCons (tVar i0) tNil)) (tCons (tCB (rList K) (tCons (tVar i1) tNil)) tNil))) (gName hi) D σ H := by
  obtain ⟨b0, u0, s0, g0, r0⟩ := sh_lst o e0
  obtain ⟨b1, u1, s1, g1, r1⟩ := sh_lst o e1
  refine ⟨_, s0, b0, u0, rfl, .inl (SqL.of g0), fun a0 f0 => ?_⟩
  have n10 : b1 ≠ a0 := ne_of_none g1 f0
  refine ⟨_, s1, b1, u1, rfl, .inl (SqL.of (by rw [upd_ne n10]; exact g1)), fun a1 f1 => ?_⟩
  refine ⟨small_k (by simp), fun h f2 => ?_⟩
  have ne01 : a0 ≠ a1 := fun z => by subst z; rw [upd_same] at f1; cases f1
  have f1' : H a1 = none := by rw [upd_ne (Ne.symm ne01)] at f1; exact f1
  have nh1 : h ≠ a1 := fun z => by subst z; rw [upd_same] at f2; cases f2
  rw [upd_ne nh1] at f2
  have nh0 : h ≠ a0 := fun z => by subst z; rw [upd_same] at f2; cases f2
  rw [upd_ne nh0] at f2
  have x1 : Ext F H F (upd H a0 (.lst u0)) := Ext.new o.same f0
  have x2 : Ext F (upd H a0 (.lst u0)) F (upd (upd H a0 (.lst u0)) a1 (.lst u1)) := Ext.new x1.s (by rw [upd_ne (Ne.symm ne01)]; exact f1')
  have x3 : Ext F (upd (upd H a0 (.lst u0)) a1 (.lst u1)) F (upd (upd (upd H a0 (.lst u0)) a1 (.lst u1)) h (.lst [.ref a0, .ref a1])) := Ext.new x2.s (by rw [upd_ne nh1, upd_ne nh0]; exact f2)
  have o3 := ((o.ext x1).ext x2).ext x3
  have o4 := o3.put (i := hi) (vv := .ref h) (s := .un) hf trivial (fun z => nomatch z)
  refine k _ h a0 a1 u0 u1 o4 ⟨?_, upd_same, ?_, ?_, r0, r1, fun b hb => ?_, nh0, nh1, ne01⟩
  · rw [List.getElem?_set_self (by rw [o.len]; exact hl)]
  · rw [upd_ne (Ne.symm nh0), upd_ne ne01, upd_same]
  · rw [upd_ne (Ne.symm nh1), upd_same]
  · have fr : H b = none := by rcases hb with z | z | z <;> subst z <;> assumption
    exact ⟨o.same.free fr, o.fresh fr, o.freshE fr, fun i w => (o.own_there (own_un w)).1 fr⟩
/-- behind a change of some cells that no name owns -/
theorem Ok.extN {O : List Addr} (o : Ok G xa fx B F H σ e) (x : ExtO O F H F' H') (hO : ∀ a ∈ O, B.H a = none ∧ B.E a = none ∧ ∀ i, ¬ Own e σ i a) : Ok G xa fx B F' H' σ e where
  same := x.s
  sF := o.sF.trans x.sF
  kH := fun b u q n => x.kH b u (o.kH b u q n) fun m => by rw [(hO b m).1] at q; cases q
  dom := fun b q z => by
    cases g : H b with
    | none => exact o.dom b q g
    | some u =>
      by_cases m : b ∈ O
      · exact q (hO b m).1
      · rw [x.kH b u g m] at z; cases z
  domE := fun b q z => by
    cases g : H b with
    | none => exact o.domE b q g
    | some u =>
      by_cases m : b ∈ O
      · exact q (hO b m).2.1
      · rw [x.kH b u g m] at z; cases z
  nF := fun b h1 h2 h3 => x.nF b (o.nF b h1 h2 h3) (o.dom b h2) fun m => h2 (hO b m).1
  len := o.len
  sl := fun i s t h1 h2 => by
    have z := o.sl i s t h1 h2
    cases s with
    | un => trivial
    | sh d => obtain ⟨v, e1, r⟩ := z; exact ⟨v, e1, r.mono x.sF⟩
    | ow xs =>
      obtain ⟨b, vs, e1, f, hh, r, q⟩ := z
      have nO : b ∉ O := fun m => (hO b m).2.2 i ⟨by rw [h2, e1], _, h1, rfl⟩
      exact ⟨b, vs, e1, x.nF b f (ne_none hh) nO, x.kH b _ hh nO, r.mono x.sF, q⟩
    | ob c fs =>
      obtain ⟨b, C, dx, vfs, e1, f, hh, m, r, q⟩ := z
      have nO : b ∉ O := fun m => (hO b m).2.2 i ⟨by rw [h2, e1], _, h1, rfl⟩
      exact ⟨b, C, dx, vfs, e1, x.nF b f (ne_none hh) nO, x.kH b _ hh nO, m, RpF.mono x.sF r, q⟩
    | ex c fs => obtain ⟨a, C, d, e1, e2, m, f⟩ := z; exact ⟨a, C, d, e1, e2, m, f.mono x.sF⟩
  dj := o.dj
  fix := o.fix
/-- a cell that no name owns and nothing shared shows -/
theorem Ok.poke {a : Addr} {u : HO} (o : Ok G xa fx B F H σ e) (hF : F a = none) (hB : B.H a = none) (hE : B.E a = none) (no : ∀ i, ¬ Own e σ i a) : Ok G xa fx B F (upd H a u) σ e :=
  o.extN (O := [a]) ⟨Same.refl _, fun b w q => by rw [upd_ne (fun z => by subst z; rw [hF] at q; cases q)]; exact o.same b w q,
    fun b w q n => by rw [upd_ne (by simpa using n)]; exact q, fun b q _ _ => q⟩ fun b m => by
      simp only [List.mem_singleton] at m
      subst m
      exact ⟨hB, hE, no⟩
def hIx (K : PySem.W.Frag) (hi : Nat) (j : Int) : TE := tOp (rIx K) (tVar hi) (tC (.int j))
theorem pe_hIx {x : Str} {p p2 : Pos} {j : Int} {n : Nat} (hx : chkV c hi x = true) (gd : Good G c xa X) : PE X (.Subscript (.Name x p) (.Constant (.int j) n p2) pos) (hIx X.K hi j) :=
  pe_ix ix_seq (pe_name hx gd) pe_int (plainI_ok rfl)
theorem hIx_0 {K : PySem.W.Frag} {Q : VK} (hd : Hand G B F H σ e hi xs ys a0 a1 h w0 w1) (q : Q (.ref a0) H) : hIx K hi 0 σ H Q := ⟨_, hd.at_, .inl ⟨h, _, 0, .ref a0, rfl, rfl, SqL.of hd.hh, rfl, q⟩⟩
theorem hIx_1 {K : PySem.W.Frag} {Q : VK} (hd : Hand G B F H σ e hi xs ys a0 a1 h w0 w1) (q : Q (.ref a1) H) : hIx K hi 1 σ H Q := ⟨_, hd.at_, .inl ⟨h, _, 1, .ref a1, rfl, rfl, SqL.of hd.hh, rfl, q⟩⟩
/-- handed[0].clear() -/
theorem hand_clr0 {K : PySem.W.Frag} {D : Ends} (o : Ok G xa fx B F H σ e) (hd : Hand G B F H σ e hi xs ys a0 a1 h w0 w1)
    (k : ∀ H', Ok G xa fx B F H' σ e → Hand G B F H' σ e hi [] ys a0 a1 h [] w1 → D.nx σ H') : tDrop (tBM0 K "list" rClear (hIx K hi 0)) D σ H := by
  obtain ⟨n1, n2, n3, n4⟩ := hd.nw a0 (.inr (.inl rfl))
  refine hIx_0 hd ⟨.inl ⟨rfl, _, SqL.of hd.h0⟩, a0, w0, rfl, rfl, hd.h0, k _ (o.poke n1 n2 n3 n4) ?_⟩
  exact ⟨hd.at_, by rw [upd_ne hd.n0]; exact hd.hh, upd_same, by rw [upd_ne (Ne.symm hd.n2)]; exact hd.h1, .nil, hd.r1, hd.nw, hd.n0, hd.n1, hd.n2⟩
theorem hand_clr1 {K : PySem.W.Frag} {D : Ends} (o : Ok G xa fx B F H σ e) (hd : Hand G B F H σ e hi xs ys a0 a1 h w0 w1)
    (k : ∀ H', Ok G xa fx B F H' σ e → Hand G B F H' σ e hi xs [] a0 a1 h w0 [] → D.nx σ H') : tDrop (tBM0 K "list" rClear (hIx K hi 1)) D σ H := by
  obtain ⟨n1, n2, n3, n4⟩ := hd.nw a1 (.inr (.inr rfl))
  refine hIx_1 hd ⟨.inl ⟨rfl, _, SqL.of hd.h1⟩, a1, w1, rfl, rfl, hd.h1, k _ (o.poke n1 n2 n3 n4) ?_⟩
  exact ⟨hd.at_, by rw [upd_ne hd.n1]; exact hd.hh, by rw [upd_ne hd.n2]; exact hd.h0, upd_same, hd.r0, .nil, hd.nw, hd.n0, hd.n1, hd.n2⟩
theorem ps_clr {x : Str} {p p2 p3 apos pos' : Pos} {j : Int} {n : Nat} (hx : chkV c hi x = true) (gd : Good G c xa X) (hline : (apos.endLine == pos.line) = true) :
    PS X (.Expr (.Call (.Attribute (.Subscript (.Name x p) (.Constant (.int j) n p2) p3) "clear" apos) [] [] pos) pos') (tDrop (tBM0 X.K "list" rClear (hIx X.K hi j))) :=
  ps_expr (pe_bm0 PySem.F.plainAttrs_list PySem.F.slot_list_clear PySem.F.type_list_clear mt_clear (pe_hIx hx gd) rfl hline)
/-- chart = C(handed[0], handed[1]) -/
def owS : Option Slot → Bool
  | some (.ow _) => true
  | _ => false
theorem owS_ok {s : Option Slot} (h : owS s = true) : ∃ xs, s = some (.ow xs) := by
  unfold owS at h
  split at h
  · exact ⟨_, rfl⟩
  · cases h
def mkHand (cl : Str) (body : M Fl) (n ci : Nat) (xs ys : List D) (g : M Fl) : M Fl := fun e => match body (.ob cl [] :: .ow xs :: .ow ys :: List.replicate (n - 3) .un) with
  | .ok .nx e' => (match obD e'[0]? with
    | some d => if (owS e'[1]? && owS e'[2]?) = true then g (e.set ci (.sh d)) else .st
    | none => .st)
  | _ => .st
def tMk (C : Addr) (sp : Sp) (E : XK) (t : TA) : TE := fun σ H Q => t σ H fun vs H1 => ∀ x dx, H1 x = none → H1 dx = none → dx ≠ x → sp (.ref x :: vs) (upd (upd H1 dx (.own x)) x (.ins C dx [])) (fun v H2 => v = .non ∧ Q (.ref x) H2) E
theorem hand_mk {K : PySem.W.Frag} {D : Ends} {cl : Str} {C : Addr} {n ci : Nat} {body : M Fl} {g : M Fl} {E : XK} (o : Ok G xa fx B F H σ e) (hd : Hand G B F H σ e hi xs ys a0 a1 h w0 w1) (hm : G.mg cl = some (.ref C)) (hci : ci ∉ fx) (ne : ci ≠ hi)
    (p : PostS G xa fx W B D0 F (mkHand cl body n ci xs ys g e))
    (k : ∀ x d F' H' xs' ys' w0' w1', Ok G xa fx B F' H' (σ.set ci (some (.ref x))) (e.set ci (.sh d)) → Hand G B F' H' (σ.set ci (some (.ref x))) (e.set ci (.sh d)) hi xs' ys' a0 a1 h w0' w1' → PostS G xa fx W B D0 F' (g (e.set ci (.sh d))) → D.nx (σ.set ci (some (.ref x))) H') :
    tAsg (tMk C (spMkO G cl 3 n body) E (tCons (hIx K hi 0) (tCons (hIx K hi 1) tNil))) (gName ci) D σ H := by
  refine hIx_0 hd (hIx_1 hd fun x dx nx ndx nd => ?_)
  obtain ⟨q1, q2, q3, q4⟩ := hd.nw a0 (.inr (.inl rfl))
  obtain ⟨t1, t2, t3, t4⟩ := hd.nw a1 (.inr (.inr rfl))
  obtain ⟨m1, m2, m3, m4⟩ := hd.nw h (.inl rfl)
  have kp : ∀ b u, H b = some u → (upd (upd H dx (.own x)) x (.ins C dx [])) b = some u := fun b u z => by
    rw [upd_ne (ne_of_none z nx), upd_ne (ne_of_none z ndx)]; exact z
  have so : SsOk G F (upd (upd H dx (.own x)) x (.ins C dx [])) [DL.Slot.ow xs, DL.Slot.ow ys] [V.ref a0, V.ref a1] [a0, a1] :=
    .ow ⟨q1, w0, kp _ _ hd.h0, hd.r0⟩ (by simp [hd.n2]) (.ow ⟨t1, w1, kp _ _ hd.h1, hd.r1⟩ (by simp) .nil)
  have xO : x ∉ [a0, a1] := by
    simp only [List.mem_cons, List.not_mem_nil, or_false, not_or]
    exact ⟨fun z => (by rw [z, hd.h0] at nx; cases nx), fun z => (by rw [z, hd.h1] at nx; cases nx)⟩
  refine ⟨F, [DL.Slot.ow xs, DL.Slot.ow ys], x, C, dx, [V.ref a0, V.ref a1], [a0, a1], rfl, rfl, fun b u z => kp b u (o.same b u z), o.same.free nx, upd_same, hm, so, xO, ?_⟩
  unfold mkHand at p
  rw [show (DL.Slot.ob cl [] :: [DL.Slot.ow xs, DL.Slot.ow ys] ++ List.replicate (n - 3) .un) = .ob cl [] :: .ow xs :: .ow ys :: List.replicate (n - 3) .un from rfl]
  cases hb : body (.ob cl [] :: .ow xs :: .ow ys :: List.replicate (n - 3) .un) with
  | st => rw [hb] at p; exact p.elim
  | ex c' fs' e' => rw [hb] at p; exact p.elim
  | ok fl e' =>
    rw [hb] at p
    cases fl with
    | bk => exact p.elim
    | ct => exact p.elim
    | rt r => exact p.elim
    | nx =>
      dsimp only at p ⊢
      cases z0 : obD e'[0]? with
      | none => rw [z0] at p; exact p.elim
      | some d0 =>
        rw [z0] at p
        dsimp only at p ⊢
        intro F' H' z rp hlent
        have nx' : x ≠ h := fun y => by rw [y, hd.hh] at nx; cases nx
        have zN : ExtO [a0, a1] F H F' H' := ⟨z.sF, z.s, fun b u q nO => z.kH b u (kp b u q) (fun hm => by
            rcases List.mem_cons.mp hm with e | hm
            · exact ne_of_none q nx e
            · exact nO hm), fun b z1 z2 nO => by
            obtain ⟨u, hu⟩ : ∃ u, H b = some u := by
              cases q : H b with
              | none => exact absurd q z2
              | some u => exact ⟨u, rfl⟩
            exact z.nF b z1 (ne_none (kp b u hu)) (fun hm => by
              rcases List.mem_cons.mp hm with e | hm
              · exact ne_of_none hu nx e
              · exact nO hm)⟩
        have o2 : Ok G xa fx B F' H' σ e := o.extN zN fun b hb => by
          simp only [List.mem_cons, List.not_mem_nil, or_false] at hb
          rcases hb with rfl | rfl
          · exact ⟨q2, q3, q4⟩
          · exact ⟨t2, t3, t4⟩
        by_cases hw : (owS e'[1]? && owS e'[2]?) = true
        · rw [if_pos hw] at p
          rw [Bool.and_eq_true] at hw
          obtain ⟨xs', e1⟩ := owS_ok hw.1
          obtain ⟨ys', e2⟩ := owS_ok hw.2
          obtain ⟨l0, u0, l1, l2⟩ := hlent 0 a0 xs rfl rfl xs' e1
          obtain ⟨l3, u1, l4, l5⟩ := hlent 1 a1 ys rfl rfl ys' e2
          have o3 := o2.putS (i := ci) (vv := .ref x) hci rp
          refine ⟨rfl, k x d0 F' H' xs' ys' u0 u1 o3 ⟨?_, ?_, l1, l4, l2, l5, fun b hb => ?_, hd.n0, hd.n1, hd.n2⟩ (p.mono z.sF)⟩
          · rw [List.getElem?_set_ne ne]; exact hd.at_
          · exact z.kH h _ (kp h _ hd.hh) (by simp [Ne.symm nx', hd.n0, hd.n1])
          · obtain ⟨y1, y2, y3, y4⟩ := hd.nw b hb
            refine ⟨?_, y2, y3, fun i w => ?_⟩
            · rcases hb with rfl | rfl | rfl
              · exact z.nF b m1 (ne_none (kp b _ hd.hh)) (by simp [Ne.symm nx', hd.n0, hd.n1])
              · exact l0
              · exact l3
            · obtain ⟨w1, t, w2, w3⟩ := w
              by_cases hj : ci = i
              · subst hj
                have hl : ci < e.length := by have := (List.getElem?_eq_some_iff.mp w2).1; rwa [List.length_set] at this
                rw [List.getElem?_set_self hl] at w2
                cases w2
                cases w3
              · rw [List.getElem?_set_ne hj] at w1 w2
                exact y4 i ⟨w1, t, w2, w3⟩
        · rw [if_neg hw] at p
          exact p.elim
/-- S1 S2 S3 S4 of k07 -/
def shL : Option Slot → Option (List D)
  | some (.sh (.lst xs)) => some xs
  | _ => none
theorem shL_ok {s : Option Slot} (h : shL s = some xs) : s = some (.sh (.lst xs)) := by
  unfold shL at h
  split at h
  · cases h; rfl
  · cases h
def hand7 (i0 i1 hi ci : Nat) (cl : Str) (body : M Fl) (n : Nat) (g : M Fl) : M Fl := fun e => match shL e[i0]? with
  | none => .st
  | some xs => match shL e[i1]? with
    | none => .st
    | some ys => if hi < e.length then mkHand cl body n ci xs ys g (e.set hi .un) else .st
theorem pe_mkHand {cl hn : Str} {k n : Nat} {body : M Fl} {p1 p2 p3 p4 p5 p6 p7 : Pos} {j1 j2 : Nat} {f C : Addr} {fd : FuncData} {ps : List Str} (gd : Good G c xa X) (tk : Takes X W) (hm : G.mg cl = some (.ref C)) (M0 : Mk G.K C f) (hb : Binds G.K fd ps []) (F0 : FnOk G.P G.w G.K G.mg G.base (L2.CX G.P G.w) k f fd ps (spMkO G cl 3 n body)) (hk : k + 1 ≤ c.k) (hc : c.cm = true) (hcl : chkG c cl = true) (hV : chkV c hi hn = true) :
    PE X (.Call (.Name cl p1) [.Subscript (.Name hn p2) (.Constant (.int 0) j1 p3) p4, .Subscript (.Name hn p5) (.Constant (.int 1) j2 p6) p7] [] pos) (fun σ H Q => tMk C (spMkO G cl 3 n body) (WE W σ) (tCons (hIx X.K hi 0) (tCons (hIx X.K hi 1) tNil)) σ H Q) := by
  obtain ⟨h1, h2, h3⟩ := chkG_ok hcl gd
  have F1 : FnOk X.prog X.w X.K X.mg X.base (L2.CX X.prog X.w) k f fd ps (spMkO G cl 3 n body) := by rw [gd.prog, gd.w, gd.K, gd.mg, gd.base]; exact F0
  have M1 : Mk X.K C f := by rw [gd.K]; exact M0
  refine ⟨fun pins s σ H Q I q => ?_⟩
  refine wpAny_Call_Name_kw (ld_glob I h1 (by rw [gd.mg]; exact hm) ?_ h2)
  refine PySem.W.callWith_K (h₀ := X.base) I.ok.mod.kin M1.kp (thn ((pa_cons (pe_hIx hV gd) (pa_cons (pe_hIx hV gd) pa_nil)).run pos pins s σ H _ I q) fun us s1 ⟨vs, H1, I1, r, q⟩ => ⟨I1.kIn, ?_⟩) rfl rfl
  exact run_makeS M1 F1 ((gd.room hc).mono hk) (by rw [gd.K]; exact hb) (passAt tk σ) I1 r q
theorem dss_hand7 {cl hn cn x0 x1 : Str} {k n ci i0 i1 : Nat} {body g : M Fl} {rest : List Stmt} {p1 p2 p3 p4 p5 p6 p7 p8 p9 p10 p11 p12 p13 p14 p15 p16 p17 p18 p19 p20 p21 p22 p23 p24 p25 p26 p27 p28 p29 p30 p31 : Pos} {j1 j2 j3 j4 : Nat} (Mi : MkO G k cl 3 n body) (hk : k + 1 ≤ c.k) (hc : c.cm = true) (hcl : chkG c cl = true) (hg : chkG c "list" = true) (hm : G.mg "list" = none)
    (h0 : chkV c i0 x0 = true) (h1 : chkV c i1 x1 = true) (hL : chkL c hi hn = true) (hV : chkV c hi hn = true) (cL : chkL c ci cn = true) (ne : ci ≠ hi) (l1 : (p23.endLine == p24.line) = true) (l2 : (p29.endLine == p30.line) = true) (hr : DSs G c rest g) :
    DSs G c (.Assign [.Name hn p1] (.List [.Call (.Name "list" p2) [.Name x0 p3] [] p4, .Call (.Name "list" p5) [.Name x1 p6] [] p7] p8) p9 ::
      .Assign [.Name cn p10] (.Call (.Name cl p11) [.Subscript (.Name hn p12) (.Constant (.int 0) j1 p13) p14, .Subscript (.Name hn p15) (.Constant (.int 1) j2 p16) p17] [] p18) p19 ::
      .Expr (.Call (.Attribute (.Subscript (.Name hn p20) (.Constant (.int 0) j3 p21) p22) "clear" p23) [] [] p24) p25 ::
      .Expr (.Call (.Attribute (.Subscript (.Name hn p26) (.Constant (.int 1) j4 p27) p28) "clear" p29) [] [] p30) p31 :: rest) (hand7 i0 i1 hi ci cl body n g) := fun X xa gd W tk => by
  obtain ⟨C, f, fd, ps, el, hmC, M0, hb, F0⟩ := Mi.ex
  obtain ⟨q1, q2, q3, q4, q5⟩ := chkL_ok hL
  obtain ⟨r1, r2, r3, r4, r5⟩ := chkL_ok cL
  have s1 := ps_set (X := X) (i := hi) (pos := p9) (pos' := p1) (by rw [gd.hN]; exact q2) (by rw [gd.hN]; exact q1) (by rw [gd.sc]; exact q5) (pe_lst (pos := p8) (pa_cons (pe_listv (p := p2) (p2 := p3) (pos := p4) hg hm h0 gd) (pa_cons (pe_listv (p := p5) (p2 := p6) (pos := p7) hg hm h1 gd) pa_nil))) rfl (.inl (gd.fn q3 hn))
  have s2 := ps_set (X := X) (i := ci) (pos := p19) (pos' := p10) (by rw [gd.hN]; exact r2) (by rw [gd.hN]; exact r1) (by rw [gd.sc]; exact r5) (pe_mkHand (p1 := p11) (p2 := p12) (p3 := p13) (p4 := p14) (p5 := p15) (p6 := p16) (p7 := p17) (pos := p18) (j1 := j1) (j2 := j2) gd tk hmC M0 hb F0 hk hc hcl hV) rfl (.inl (gd.fn r3 cn))
  have s3 := ps_clr (X := X) (p := p20) (p2 := p21) (p3 := p22) (apos := p23) (pos := p24) (pos' := p25) (j := 0) (n := j3) hV gd l1
  have s4 := ps_clr (X := X) (p := p26) (p2 := p27) (p3 := p28) (apos := p29) (pos := p30) (pos' := p31) (j := 1) (n := j4) hV gd l2
  refine PSs.weak (pss_cons s1 (pss_cons s2 (pss_cons s3 (pss_cons s4 (hr X xa gd W tk))))) fun D σ H ⟨B, F, e, o, p⟩ => ?_
  unfold hand7 at p
  cases e0 : shL e[i0]? with
  | none => rw [e0] at p; exact p.elim
  | some xs =>
    rw [e0] at p
    dsimp only at p
    cases e1 : shL e[i1]? with
    | none => rw [e1] at p; exact p.elim
    | some ys =>
      rw [e1] at p
      dsimp only at p
      by_cases hl : hi < e.length
      · rw [if_pos hl] at p
        refine hand_make (D := { D with nx := _ }) o q4 hl (shL_ok e0) (shL_ok e1) fun H1 h a0 a1 w0 w1 o1 hd1 => ?_
        refine hand_mk (D := { D with nx := _ }) o1 hd1 hmC r4 ne p fun x d F2 H2 xs2 ys2 u0 u1 o2 hd2 p2 => ?_
        refine hand_clr0 (D := { D with nx := _ }) o2 hd2 fun H3 o3 hd3 => ?_
        refine hand_clr1 (D := { D with nx := _ }) o3 hd3 fun H4 o4 hd4 => ?_
        exact ⟨B, F2, _, o4, p2⟩
      · rw [if_neg hl] at p
        exact p.elim
end
end DL
namespace DL
open PySem PySem.Spec L2
open PyProof.Rows hiding St
set_option autoImplicit false
@[simp] theorem shL_l {xs : List D} : shL (some (.sh (.lst xs))) = some xs := rfl
@[simp] theorem owS_o {xs : List D} : owS (some (.ow xs)) = true := rfl
@[simp] theorem e_hand7 {i0 i1 hi ci : Nat} {cl : Str} {body g : M Fl} {n : Nat} {e : List Slot} : hand7 i0 i1 hi ci cl body n g e = match shL e[i0]? with
  | none => .st
  | some xs => match shL e[i1]? with
    | none => .st
    | some ys => if hi < e.length then mkHand cl body n ci xs ys g (e.set hi .un) else .st := rfl
@[simp] theorem e_mkHand {cl : Str} {body g : M Fl} {n ci : Nat} {xs ys : List D} {e : List Slot} : mkHand cl body n ci xs ys g e = match body (.ob cl [] :: .ow xs :: .ow ys :: List.replicate (n - 3) .un) with
  | .ok .nx e' => (match obD e'[0]? with
    | some d => if (owS e'[1]? && owS e'[2]?) = true then g (e.set ci (.sh d)) else .st
    | none => .st)
  | _ => .st := rfl
end DL
set_option Elab.async false
set_option linter.all false
set_option maxRecDepth 100000
set_option maxHeartbeats 4000000
set_option autoImplicit false
noncomputable section
namespace My
open PySem PySem.Spec L2 DL
open PyProof.Rows hiding St
/-- within(chart, room, other): chart 0 room 1 other 2 -/
def L_within_1 : M Fl := (setS 1 (op2 idxD (op2 idxD (fldE "Chart" "rooms" (v 0)) (v 1)) (kc (.int 0))))
def B_within : M Fl := (seqS (whileS (asB (op2 gtD (v 1) (v 2))) L_within_1) (retS [] (op2 eqD (v 1) (v 2))))
def F_within : List D → FOut := defF 3 3 B_within
/-- scope(chart, source, target): chart 0 source 1 target 2 found 3 k 4 -/
def L_scope_1 : M Fl := (ifS (andT (asB (op2 inD (op2 idxD (op2 idxD (fldE "Chart" "rooms" (v 0)) (v 4)) (kc (.int 1))) (tupE [(kc (.str "one")), (kc (.str "keep"))]))) (andT (asB (op2 neD (v 4) (v 1))) (asB (op2 neD (v 4) (v 2))))) (ifS (andT (asB (callU F_within [(v 0), (v 1), (v 4)])) (asB (callU F_within [(v 0), (v 2), (v 4)]))) (setS 3 (v 4)) nxS) nxS)
def B_scope : M Fl := (seqS (setS 3 (kc .non)) (seqS (forS 4 (itR1 (callB lenD [(fldE "Chart" "rooms" (v 0))])) L_scope_1) (retS [] (v 3))))
def F_scope : List D → FOut := defF 3 5 B_scope
/-- look_at_arrows(chart): chart 0 many 1 arrow 2 -/
def L_look_at_arrows_1 : M Fl := (seqS (ifS (notT (andT (asB (chainE leD ltD (kc (.int 0)) (op2 idxD (v 2) (kc (.int 0))) (v 1))) (andT (asB (chainE leD ltD (kc (.int (-1))) (op2 idxD (v 2) (kc (.int 2))) (v 1))) (asB (chainE leD ltD (kc (.int 0)) (op2 idxD (v 2) (kc (.int 3))) (v 1)))))) (raiS "BadChart") nxS) (seqS (ifS (notT (andT (asB (chainE leD ltD (kc (.int 0)) (op2 idxD (v 2) (kc (.int 1))) (kc (.int 4)))) (asB (chainE leD ltD (kc (.int 0)) (op2 idxD (v 2) (kc (.int 4))) (kc (.int 100)))))) (raiS "BadChart") nxS) (ifS (asB (op2 isND (callU F_scope [(v 0), (op2 idxD (v 2) (kc (.int 0))), (op2 idxD (v 2) (kc (.int 3)))]) (kc .non))) (raiS "BadChart") nxS)))
def B_look_at_arrows : M Fl := (seqS (setS 1 (callB lenD [(fldE "Chart" "rooms" (v 0))])) (seqS (ifS (asB (op2 gtD (callB lenD [(fldE "Chart" "arrows" (v 0))]) (kc (.int 20)))) (raiS "BadChart") nxS) (forS 2 (itL (fldE "Chart" "arrows" (v 0))) L_look_at_arrows_1)))
def F_look_at_arrows : List D → FOut := defF 1 3 B_look_at_arrows
/-- look_at_rooms(rooms): rooms 0 k 1 inside 2 room 3 -/
def L_look_at_rooms_1 : M Fl := (seqS (ifS (asB (op2 ninD (op2 idxD (op2 idxD (v 0) (v 1)) (kc (.int 1))) (kc (.tup [.str "plain", .str "one", .str "all", .str "keep"])))) (raiS "BadChart") nxS) (seqS (ifS (andT (asB (op2 gtD (v 1) (kc (.int 0)))) (notT (asB (chainE leD ltD (kc (.int 0)) (op2 idxD (op2 idxD (v 0) (v 1)) (kc (.int 0))) (v 1))))) (raiS "BadChart") nxS) (seqS (setS 2 (compE 3 (itL (v 0)) (asB (op2 eqD (op2 idxD (v 3) (kc (.int 0))) (v 1))) (v 3))) (ifS (asB (op2 neD (op2 eqD (v 2) (lstE [])) (op2 eqD (op2 idxD (op2 idxD (v 0) (v 1)) (kc (.int 1))) (kc (.str "plain"))))) (raiS "BadChart") nxS))))
def B_look_at_rooms : M Fl := (seqS (ifS (notT (asB (chainE leD leD (kc (.int 1)) (callB lenD [(v 0)]) (kc (.int 16))))) (raiS "BadChart") nxS) (seqS (ifS (asB (op2 neD (op2 idxD (op2 idxD (v 0) (kc (.int 0))) (kc (.int 0))) (kc (.int (-1))))) (raiS "BadChart") nxS) (forS 1 (itR1 (callB lenD [(v 0)])) L_look_at_rooms_1)))
def F_look_at_rooms : List D → FOut := defF 1 4 B_look_at_rooms
/-- Chart.__init__(self, rooms, arrows): self 0 rooms 1 arrows 2 -/
def B_Chart__init : M Fl := (seqS (fldS "Chart" 0 "rooms" (callB listD [(v 1)])) (seqS (fldS "Chart" 0 "arrows" (callB listD [(v 2)])) (seqS (dropS (callU F_look_at_rooms [(fldE "Chart" "rooms" (v 0))])) (dropS (callU F_look_at_arrows [(v 0)])))))
def F_Chart__init : List D → FOut := mkF "Chart" 3 3 B_Chart__init
/-- _law_cell_at(script, k): script 0 k 1 -/
def B__law_cell_at : M Fl := (seqS (ifS (asB (op2 ltD (v 1) (callB lenD [(v 0)]))) (retS [] (op2 idxD (v 0) (v 1))) nxS) (retS [] (kc (.int 0))))
def F__law_cell_at : List D → FOut := defF 2 2 B__law_cell_at
/-- _law_behind_event(place, event, one, other, first, second): place 0 event 1 one 2 other 3 first 4 second 5 -/
def B__law_behind_event : M Fl := (seqS (ifS (orT (asB (op2 isND (v 0) (kc .non))) (asB (op2 eqD (v 1) (kc (.int 2))))) (retS [] (v 0)) nxS) (seqS (ifS (asB (op2 eqD (v 1) (kc (.int 0)))) (retS [] (tupE [(op2 modD (op2 addD (op2 idxD (v 0) (kc (.int 0))) (kc (.int 1))) (v 2)), (op2 idxD (v 0) (kc (.int 1)))])) nxS) (seqS (ifS (asB (op2 eqD (v 1) (kc (.int 1)))) (retS [] (tupE [(op2 idxD (v 0) (kc (.int 0))), (op2 modD (op2 addD (op2 idxD (v 0) (kc (.int 1))) (kc (.int 1))) (v 3))])) nxS) (seqS (ifS (orT (asB (op2 eqD (op2 idxD (v 0) (kc (.int 0))) (v 4))) (asB (op2 eqD (op2 idxD (v 0) (kc (.int 1))) (v 5)))) (retS [] (kc .non)) nxS) (retS [] (v 0))))))
def F__law_behind_event : List D → FOut := defF 6 6 B__law_behind_event
/-- _law_first_met(one, other, first, second): one 0 other 1 first 2 second 3 places 4 ways 5 here 6 event 7 behind 8 -/
def L__law_first_met_2 : M Fl := (seqS (ifS (andT (asB (op2 eqD (v 7) (kc (.int 3)))) (asB (op2 eqD (op2 idxD (v 4) (v 6)) (tupE [(v 2), (v 3)])))) (retS [] (op2 addD (op2 idxD (v 5) (v 6)) (tupE [(v 7)]))) nxS) (seqS (setS 8 (callU F__law_behind_event [(op2 idxD (v 4) (v 6)), (v 7), (v 0), (v 1), (v 2), (v 3)])) (ifS (asB (op2 ninD (v 8) (v 4))) (seqS (ifS (asB (op2 eqD (callB lenD [(v 4)]) (kc (.int 30)))) (retS [] (kc .non)) nxS) (seqS (appS 4 (v 8)) (appS 5 (op2 addD (op2 idxD (v 5) (v 6)) (tupE [(v 7)]))))) nxS)))
def L__law_first_met_1 : M Fl := (seqS (forS 7 (itR1 (kc (.int 4))) L__law_first_met_2) (setS 6 (op2 addD (v 6) (kc (.int 1)))))
def B__law_first_met : M Fl := (seqS (setM 4 (lstE [(tupE [(kc (.int 0)), (kc (.int 0))])])) (seqS (setM 5 (lstE [(tupE [])])) (seqS (setS 6 (kc (.int 0))) (seqS (whileS (asB (op2 ltD (v 6) (callB lenD [(v 4)]))) L__law_first_met_1) (retS [] (kc .non))))))
def F__law_first_met : List D → FOut := defF 4 9 B__law_first_met
/-- _law_row(found, due): found 0 due 1 k 2 -/
def L__law_row_1 : M Fl := (ifS (orT (asB (isiE "bool" (op2 idxD (v 0) (v 2)))) (orT (notT (asB (isiE "int" (op2 idxD (v 0) (v 2))))) (asB (op2 neD (op2 idxD (v 0) (v 2)) (op2 idxD (v 1) (v 2)))))) (retS [] (kc (.bl false))) nxS)
def B__law_row : M Fl := (seqS (ifS (orT (notT (asB (isiE "tuple" (v 0)))) (asB (op2 neD (callB lenD [(v 0)]) (callB lenD [(v 1)])))) (retS [] (kc (.bl false))) nxS) (seqS (forS 2 (itR1 (callB lenD [(v 1)])) L__law_row_1) (retS [] (kc (.bl true)))))
def F__law_row : List D → FOut := defF 2 3 B__law_row
/-- _law_two_halls(one, other, first, second): one 0 other 1 first 2 second 3 rooms 4 k 5 arrows 6 far 7 -/
def B__law_two_halls : M Fl := (seqS (setS 4 (lstE [(tupE [(kc (.int (-1))), (kc (.str "one"))]), (tupE [(kc (.int 0)), (kc (.str "all"))]), (tupE [(kc (.int 1)), (kc (.str "one"))]), (tupE [(kc (.int 1)), (kc (.str "one"))])])) (seqS (setS 4 (op2 addD (op2 addD (op2 addD (v 4) (compE 5 (itR1 (v 0)) yesT (tupE [(kc (.int 2)), (kc (.str "plain"))]))) (compE 5 (itR1 (v 1)) yesT (tupE [(kc (.int 3)), (kc (.str "plain"))]))) (lstE [(tupE [(kc (.int 0)), (kc (.str "plain"))])]))) (seqS (setS 6 (compE 5 (itR1 (v 0)) yesT (tupE [(op2 addD (kc (.int 4)) (v 5)), (kc (.int 0)), (kc (.int (-1))), (op2 addD (kc (.int 4)) (op2 modD (op2 addD (v 5) (kc (.int 1))) (v 0))), (v 5)]))) (seqS (setS 7 (op2 addD (kc (.int 4)) (v 0))) (seqS (setS 6 (op2 addD (v 6) (compE 5 (itR1 (v 1)) yesT (tupE [(op2 addD (v 7) (v 5)), (kc (.int 1)), (kc (.int (-1))), (op2 addD (v 7) (op2 modD (op2 addD (v 5) (kc (.int 1))) (v 1))), (op2 addD (kc (.int 50)) (v 5))])))) (seqS (setS 6 (op2 addD (v 6) (lstE [(tupE [(op2 addD (kc (.int 4)) (v 2)), (kc (.int 3)), (kc (.int (-1))), (op2 addD (v 7) (v 1)), (kc (.int 98))]), (tupE [(op2 addD (v 7) (v 3)), (kc (.int 3)), (kc (.int (-1))), (op2 addD (v 7) (v 1)), (kc (.int 99))])]))) (retS [] (tupE [(v 4), (v 6)]))))))))
def F__law_two_halls : List D → FOut := defF 4 8 B__law_two_halls
/-- Flat.__init__(self, states, rows, ways): self 0 states 1 rows 2 ways 3 -/
def B_Flat__init : M Fl := (seqS (fldS "Flat" 0 "states" (v 1)) (seqS (fldS "Flat" 0 "rows" (v 2)) (fldS "Flat" 0 "ways" (v 3))))
def F_Flat__init : List D → FOut := mkF "Flat" 4 4 B_Flat__init
/-- clash_of(chart, numbers): chart 0 numbers 1 k 2 mine 3 j 4 other 5 -/
def L_clash_of_2 : M Fl := (seqS (setS 5 (callU F_scope [(v 0), (op2 idxD (op2 idxD (fldE "Chart" "arrows" (v 0)) (v 4)) (kc (.int 0))), (op2 idxD (op2 idxD (fldE "Chart" "arrows" (v 0)) (v 4)) (kc (.int 3)))])) (ifS (andT (asB (op2 gtD (v 4) (v 2))) (orT (asB (callU F_within [(v 0), (v 3), (v 5)])) (asB (callU F_within [(v 0), (v 5), (v 3)])))) (retS [] (tupE [(v 2), (v 4)])) nxS))
def L_clash_of_1 : M Fl := (seqS (setS 3 (callU F_scope [(v 0), (op2 idxD (op2 idxD (fldE "Chart" "arrows" (v 0)) (v 2)) (kc (.int 0))), (op2 idxD (op2 idxD (fldE "Chart" "arrows" (v 0)) (v 2)) (kc (.int 3)))])) (forS 4 (itL (v 1)) L_clash_of_2))
def B_clash_of : M Fl := (seqS (forS 2 (itL (v 1)) L_clash_of_1) (retS [] (kc .non)))
def F_clash_of : List D → FOut := defF 2 6 B_clash_of
/-- children(chart, room): chart 0 room 1 k 2 -/
def B_children : M Fl := (retS [] (compE 2 (itR1 (callB lenD [(fldE "Chart" "rooms" (v 0))])) (asB (op2 eqD (op2 idxD (op2 idxD (fldE "Chart" "rooms" (v 0)) (v 2)) (kc (.int 0))) (v 1))) (v 2)))
def F_children : List D → FOut := defF 2 3 B_children
/-- chosen(chart, memory, room, goal): chart 0 memory 1 room 2 goal 3 inside 4 k 5 -/
def L_chosen_1 : M Fl := (ifS (asB (callU F_within [(v 0), (v 3), (v 5)])) (retS [] (v 5)) nxS)
def B_chosen : M Fl := (seqS (setS 4 (callU F_children [(v 0), (v 2)])) (seqS (forS 5 (itL (v 4)) L_chosen_1) (seqS (ifS (asB (op2 eqD (op2 idxD (op2 idxD (fldE "Chart" "rooms" (v 0)) (v 2)) (kc (.int 1))) (kc (.str "keep")))) (retS [] (op2 idxD (v 1) (v 2))) nxS) (retS [] (op2 idxD (v 4) (kc (.int 0)))))))
def F_chosen : List D → FOut := defF 4 6 B_chosen
/-- entered(chart, memory, room, goal): chart 0 memory 1 room 2 goal 3 kept 4 ahead 5 here 6 -/
def L_entered_1 : M Fl := (seqS (setS 6 (popE 5)) (seqS (appS 4 (v 6)) (seqS (ifS (asB (op2 eqD (op2 idxD (op2 idxD (fldE "Chart" "rooms" (v 0)) (v 6)) (kc (.int 1))) (kc (.str "all")))) (extS 5 (callU F_children [(v 0), (v 6)])) nxS) (ifS (asB (op2 inD (op2 idxD (op2 idxD (fldE "Chart" "rooms" (v 0)) (v 6)) (kc (.int 1))) (tupE [(kc (.str "one")), (kc (.str "keep"))]))) (appS 5 (callU F_chosen [(v 0), (v 1), (v 6), (v 3)])) nxS))))
def B_entered : M Fl := (seqS (setM 4 (lstE [])) (seqS (setM 5 (lstE [(v 2)])) (seqS (whileS (asB (op2 neD (v 5) (lstE []))) L_entered_1) (retS [] (v 4)))))
def F_entered : List D → FOut := defF 4 7 B_entered
/-- started(chart): chart 0 memory 1 k 2 -/
def L_started_1 : M Fl := (ifS (asB (op2 eqD (op2 idxD (op2 idxD (fldE "Chart" "rooms" (v 0)) (v 2)) (kc (.int 1))) (kc (.str "keep")))) (appS 1 (op2 idxD (callU F_children [(v 0), (v 2)]) (kc (.int 0)))) (appS 1 (kc (.int (-1)))))
def B_started : M Fl := (seqS (setM 1 (lstE [])) (seqS (forS 2 (itR1 (callB lenD [(fldE "Chart" "rooms" (v 0))])) L_started_1) (retS [] (tupE [(callB tupleD [(callB sortedD [(callU F_entered [(v 0), (v 1), (kc (.int 0)), (kc (.int 0))])])]), (callB tupleD [(v 1)])]))))
def F_started : List D → FOut := defF 1 3 B_started
/-- gone(chart, kept, memory, arrow): chart 0 kept 1 memory 2 arrow 3 ring 4 stay 5 k 6 -/
def B_gone : M Fl := (seqS (setS 4 (callU F_scope [(v 0), (op2 idxD (v 3) (kc (.int 0))), (op2 idxD (v 3) (kc (.int 3)))])) (seqS (setS 5 (compE 6 (itL (v 1)) (orT (asB (op2 eqD (v 6) (v 4))) (notT (asB (callU F_within [(v 0), (v 6), (v 4)])))) (v 6))) (retS [] (callB sortedD [(op2 addD (v 5) (callU F_entered [(v 0), (v 2), (callU F_chosen [(v 0), (v 2), (v 4), (op2 idxD (v 3) (kc (.int 3)))]), (op2 idxD (v 3) (kc (.int 3)))]))]))))
def F_gone : List D → FOut := defF 4 7 B_gone
/-- remembered(chart, kept, memory): chart 0 kept 1 memory 2 found 3 k 4 holder 5 -/
def L_remembered_1 : M Fl := (seqS (setS 5 (op2 idxD (op2 idxD (fldE "Chart" "rooms" (v 0)) (v 4)) (kc (.int 0)))) (ifS (andT (asB (op2 geD (v 5) (kc (.int 0)))) (asB (op2 eqD (op2 idxD (op2 idxD (fldE "Chart" "rooms" (v 0)) (v 5)) (kc (.int 1))) (kc (.str "keep"))))) (putS 3 (v 5) (v 4)) nxS))
def B_remembered : M Fl := (seqS (setM 3 (callB listD [(v 2)])) (seqS (forS 4 (itL (v 1)) L_remembered_1) (retS [] (callB tupleD [(v 3)]))))
def F_remembered : List D → FOut := defF 3 6 B_remembered
/-- opened(chart, kept, event): chart 0 kept 1 event 2 found 3 k 4 arrow 5 -/
def L_opened_1 : M Fl := (seqS (setS 5 (op2 idxD (fldE "Chart" "arrows" (v 0)) (v 4))) (ifS (andT (asB (op2 inD (op2 idxD (v 5) (kc (.int 0))) (v 1))) (asB (op2 eqD (op2 idxD (v 5) (kc (.int 1))) (v 2)))) (ifS (orT (asB (op2 eqD (op2 idxD (v 5) (kc (.int 2))) (kc (.int (-1))))) (asB (op2 inD (op2 idxD (v 5) (kc (.int 2))) (v 1)))) (appS 3 (v 4)) nxS) nxS))
def B_opened : M Fl := (seqS (setM 3 (lstE [])) (seqS (forS 4 (itR1 (callB lenD [(fldE "Chart" "arrows" (v 0))])) L_opened_1) (retS [] (v 3))))
def F_opened : List D → FOut := defF 3 6 B_opened
/-- takeable(chart, kept, event): chart 0 kept 1 event 2 ready 3 found 4 k 5 source 6 hidden 7 j 8 -/
def L_takeable_2 : M Fl := (ifS (andT (asB (op2 neD (op2 idxD (op2 idxD (fldE "Chart" "arrows" (v 0)) (v 8)) (kc (.int 0))) (v 6))) (asB (callU F_within [(v 0), (op2 idxD (op2 idxD (fldE "Chart" "arrows" (v 0)) (v 8)) (kc (.int 0))), (v 6)]))) (setS 7 (kc (.bl true))) nxS)
def L_takeable_1 : M Fl := (seqS (setS 6 (op2 idxD (op2 idxD (fldE "Chart" "arrows" (v 0)) (v 5)) (kc (.int 0)))) (seqS (setS 7 (kc (.bl false))) (seqS (forS 8 (itL (v 3)) L_takeable_2) (ifS (notT (asB (v 7))) (appS 4 (v 5)) nxS))))
def B_takeable : M Fl := (seqS (setS 3 (callU F_opened [(v 0), (v 1), (v 2)])) (seqS (setM 4 (lstE [])) (seqS (forS 5 (itL (v 3)) L_takeable_1) (retS [] (v 4)))))
def F_takeable : List D → FOut := defF 3 9 B_takeable
/-- stepped(chart, state, event): chart 0 state 1 event 2 taken 3 pair 4 kept 5 k 6 deeds 7 -/
def L_stepped_1 : M Fl := (setS 5 (callU F_gone [(v 0), (v 5), (op2 idxD (v 1) (kc (.int 1))), (op2 idxD (fldE "Chart" "arrows" (v 0)) (v 6))]))
def B_stepped : M Fl := (seqS (setS 3 (callU F_takeable [(v 0), (op2 idxD (v 1) (kc (.int 0))), (v 2)])) (seqS (setS 4 (callU F_clash_of [(v 0), (v 3)])) (seqS (ifS (asB (op2 notND (v 4) (kc .non))) (raiC [(tupE [(v 2)]), (op2 idxD (v 4) (kc (.int 0))), (op2 idxD (v 4) (kc (.int 1)))]) nxS) (seqS (setS 5 (callB listD [(op2 idxD (v 1) (kc (.int 0)))])) (seqS (forS 6 (itL (v 3)) L_stepped_1) (seqS (setS 7 (callB tupleD [(compE 6 (itL (v 3)) yesT (op2 idxD (op2 idxD (fldE "Chart" "arrows" (v 0)) (v 6)) (kc (.int 4))))])) (retS [] (tupE [(tupE [(callB tupleD [(v 5)]), (callU F_remembered [(v 0), (v 5), (op2 idxD (v 1) (kc (.int 1)))])]), (v 7)]))))))))
def F_stepped : List D → FOut := defF 3 8 B_stepped
/-- folded(chart): chart 0 states 1 ways 2 rows 3 here 4 row 5 event 6 pair 7 behind 8 -/
def L_folded_2 : M Fl := (seqS (setS 7 (callU F_clash_of [(v 0), (callU F_takeable [(v 0), (op2 idxD (op2 idxD (v 1) (v 4)) (kc (.int 0))), (v 6)])])) (seqS (ifS (asB (op2 notND (v 7) (kc .non))) (raiC [(op2 addD (op2 idxD (v 2) (v 4)) (tupE [(v 6)])), (op2 idxD (v 7) (kc (.int 0))), (op2 idxD (v 7) (kc (.int 1)))]) nxS) (seqS (setS 8 (callU F_stepped [(v 0), (op2 idxD (v 1) (v 4)), (v 6)])) (seqS (ifS (asB (op2 ninD (op2 idxD (v 8) (kc (.int 0))) (v 1))) (seqS (ifS (asB (op2 eqD (callB lenD [(v 1)]) (kc (.int 30)))) (raiS "TooMany") nxS) (seqS (appS 1 (op2 idxD (v 8) (kc (.int 0)))) (appS 2 (op2 addD (op2 idxD (v 2) (v 4)) (tupE [(v 6)]))))) nxS) (appS 5 (tupE [(indexE (v 1) (op2 idxD (v 8) (kc (.int 0)))), (op2 idxD (v 8) (kc (.int 1)))]))))))
def L_folded_1 : M Fl := (seqS (setS 4 (callB lenD [(v 3)])) (seqS (setM 5 (lstE [])) (seqS (forS 6 (itR1 (kc (.int 4))) L_folded_2) (appS 3 (v 5)))))
def B_folded : M Fl := (seqS (setM 1 (lstE [(callU F_started [(v 0)])])) (seqS (setM 2 (lstE [(tupE [])])) (seqS (setM 3 (lstE [])) (seqS (whileS (asB (op2 ltD (callB lenD [(v 3)]) (callB lenD [(v 1)]))) L_folded_1) (retS [] (callU F_Flat__init [(v 1), (v 3), (v 2)]))))))
def F_folded : List D → FOut := defF 1 9 B_folded
/-- law(script): script 0 one 1 other 2 first 3 second 4 halls 5 chart 6 refused 7 many 8 e 9 due 10 -/
def B_law : M Fl := (seqS (setS 1 (op2 addD (kc (.int 1)) (op2 modD (callU F__law_cell_at [(v 0), (kc (.int 0))]) (kc (.int 6))))) (seqS (setS 2 (op2 addD (kc (.int 1)) (op2 modD (callU F__law_cell_at [(v 0), (kc (.int 1))]) (kc (.int 5))))) (seqS (ifS (asB (op2 eqD (op2 modD (callU F__law_cell_at [(v 0), (kc (.int 2))]) (kc (.int 2))) (kc (.int 1)))) (seqS (setS 1 (op2 addD (kc (.int 5)) (op2 modD (callU F__law_cell_at [(v 0), (kc (.int 0))]) (kc (.int 2))))) (setS 2 (op2 subD (kc (.int 11)) (v 1)))) nxS) (seqS (setS 3 (op2 modD (callU F__law_cell_at [(v 0), (kc (.int 3))]) (v 1))) (seqS (setS 4 (op2 modD (callU F__law_cell_at [(v 0), (kc (.int 4))]) (v 2))) (seqS (setS 5 (callU F__law_two_halls [(v 1), (v 2), (v 3), (v 4)])) (seqS (setS 6 (callU F_Chart__init [(op2 idxD (v 5) (kc (.int 0))), (op2 idxD (v 5) (kc (.int 1)))])) (seqS (setS 7 (kc .non)) (seqS (setS 8 (kc (.bl false))) (seqS (tryX (dropS (callU F_folded [(v 6)])) [("TooMany", none, (setS 8 (kc (.bl true)))), ("Clash", some 9, (setS 7 (tupE [(xfE "events" 9), (tupE [(xfE "first" 9), (xfE "second" 9)])])))]) (seqS (setS 10 (callU F__law_first_met [(v 1), (v 2), (v 3), (v 4)])) (seqS (ifS (asB (op2 isND (v 10) (kc .non))) (retS [] (v 8)) nxS) (seqS (ifS (orT (asB (v 8)) (asB (op2 isND (v 7) (kc .non)))) (retS [] (kc (.bl false))) nxS) (retS [] (andV (callU F__law_row [(op2 idxD (v 7) (kc (.int 0))), (v 10)]) (callU F__law_row [(op2 idxD (v 7) (kc (.int 1))), (tupE [(op2 addD (v 1) (v 2)), (op2 addD (op2 addD (v 1) (v 2)) (kc (.int 1)))])]))))))))))))))))
def F_law : List D → FOut := defF 1 11 B_law
/-- _law_first(rooms): rooms 0 choice 1 k 2 inside 3 j 4 -/
def L__law_first_1 : M Fl := (seqS (setS 3 (compE 4 (itR1 (callB lenD [(v 0)])) (asB (op2 eqD (op2 idxD (op2 idxD (v 0) (v 4)) (kc (.int 0))) (v 2))) (v 4))) (ifS (asB (op2 inD (op2 idxD (op2 idxD (v 0) (v 2)) (kc (.int 1))) (tupE [(kc (.str "one")), (kc (.str "keep"))]))) (appS 1 (op2 idxD (v 3) (kc (.int 0)))) (appS 1 (kc (.int (-1))))))
def B__law_first : M Fl := (seqS (setM 1 (lstE [])) (seqS (forS 2 (itR1 (callB lenD [(v 0)])) L__law_first_1) (retS [] (v 1))))
def F__law_first : List D → FOut := defF 1 5 B__law_first
/-- _law_rooms(script, many): script 0 many 1 holders 2 k 3 rooms 4 kind 5 -/
def L__law_rooms_1 : M Fl := (appS 2 (op2 modD (callU F__law_cell_at [(v 0), (v 3)]) (v 3)))
def L__law_rooms_2 : M Fl := (seqS (setS 5 (kc (.str "plain"))) (seqS (ifS (asB (op2 inD (v 3) (v 2))) (setS 5 (op2 idxD (lstE [(kc (.str "one")), (kc (.str "all")), (kc (.str "keep")), (kc (.str "one"))]) (op2 modD (op2 divD (callU F__law_cell_at [(v 0), (v 3)]) (kc (.int 16))) (kc (.int 4))))) nxS) (appS 4 (tupE [(op2 idxD (v 2) (v 3)), (v 5)]))))
def B__law_rooms : M Fl := (seqS (setM 2 (lstE [(kc (.int (-1)))])) (seqS (forS 3 (itR2 (kc (.int 1)) (v 1)) L__law_rooms_1) (seqS (setM 4 (lstE [])) (seqS (forS 3 (itR1 (v 1)) L__law_rooms_2) (retS [] (v 4))))))
def F__law_rooms : List D → FOut := defF 2 6 B__law_rooms
/-- _law_same_state(found, due): found 0 due 1 -/
def B__law_same_state : M Fl := (seqS (ifS (orT (notT (asB (isiE "tuple" (v 0)))) (asB (op2 neD (callB lenD [(v 0)]) (kc (.int 2))))) (retS [] (kc (.bl false))) nxS) (retS [] (andV (callU F__law_row [(op2 idxD (v 0) (kc (.int 0))), (op2 idxD (v 1) (kc (.int 0)))]) (callU F__law_row [(op2 idxD (v 0) (kc (.int 1))), (op2 idxD (v 1) (kc (.int 1)))]))))
def F__law_same_state : List D → FOut := defF 2 2 B__law_same_state
/-- _law_kept(rooms, choice): rooms 0 choice 1 kept 2 k 3 holder 4 -/
def L__law_kept_1 : M Fl := (seqS (setS 4 (op2 idxD (op2 idxD (v 0) (v 3)) (kc (.int 0)))) (ifS (andT (asB (op2 inD (v 4) (v 2))) (orT (asB (op2 eqD (op2 idxD (op2 idxD (v 0) (v 4)) (kc (.int 1))) (kc (.str "all")))) (asB (op2 eqD (op2 idxD (v 1) (v 4)) (v 3))))) (appS 2 (v 3)) nxS))
def B__law_kept : M Fl := (seqS (setM 2 (lstE [(kc (.int 0))])) (seqS (forS 3 (itR2 (kc (.int 1)) (callB lenD [(v 0)])) L__law_kept_1) (retS [] (v 2))))
def F__law_kept : List D → FOut := defF 2 5 B__law_kept
/-- _law_state(rooms, choice): rooms 0 choice 1 memory 2 k 3 -/
def L__law_state_1 : M Fl := (ifS (asB (op2 eqD (op2 idxD (op2 idxD (v 0) (v 3)) (kc (.int 1))) (kc (.str "keep")))) (appS 2 (op2 idxD (v 1) (v 3))) (appS 2 (kc (.int (-1)))))
def B__law_state : M Fl := (seqS (setM 2 (lstE [])) (seqS (forS 3 (itR1 (callB lenD [(v 0)])) L__law_state_1) (retS [] (tupE [(callB tupleD [(callU F__law_kept [(v 0), (v 1)])]), (callB tupleD [(v 2)])]))))
def F__law_state : List D → FOut := defF 2 4 B__law_state
/-- _law_chain(rooms, k): rooms 0 k 1 chain 2 -/
def L__law_chain_1 : M Fl := (seqS (setS 1 (op2 idxD (op2 idxD (v 0) (v 1)) (kc (.int 0)))) (appS 2 (v 1)))
def B__law_chain : M Fl := (seqS (setM 2 (lstE [(v 1)])) (seqS (whileS (asB (op2 geD (op2 idxD (op2 idxD (v 0) (v 1)) (kc (.int 0))) (kc (.int 0)))) L__law_chain_1) (retS [] (v 2))))
def F__law_chain : List D → FOut := defF 2 3 B__law_chain
/-- _law_scope(rooms, source, target): rooms 0 source 1 target 2 around 3 k 4 -/
def L__law_scope_1 : M Fl := (ifS (andT (asB (op2 inD (v 4) (v 3))) (asB (op2 inD (op2 idxD (op2 idxD (v 0) (v 4)) (kc (.int 1))) (tupE [(kc (.str "one")), (kc (.str "keep"))])))) (retS [] (v 4)) nxS)
def B__law_scope : M Fl := (seqS (setS 3 (slcE (callU F__law_chain [(v 0), (v 2)]) (asI (kc (.int 1))) noI)) (seqS (forS 4 (itL (slcE (callU F__law_chain [(v 0), (v 1)]) (asI (kc (.int 1))) noI)) L__law_scope_1) (retS [] (kc .non))))
def F__law_scope : List D → FOut := defF 3 5 B__law_scope
/-- _law_arrows(rooms, cells, free): rooms 0 cells 1 free 2 arrows 3 many 4 k 5 one 6 two 7 event 8 guard 9 -/
def L__law_arrows_1 : M Fl := (seqS (setS 6 (op2 idxD (v 1) (op2 mulD (kc (.int 2)) (v 5)))) (seqS (setS 7 (op2 idxD (v 1) (op2 addD (op2 mulD (kc (.int 2)) (v 5)) (kc (.int 1))))) (seqS (setS 8 (op2 modD (op2 addD (v 5) (op2 modD (op2 divD (v 6) (v 4)) (op2 addD (kc (.int 1)) (op2 mulD (op2 modD (v 5) (kc (.int 2))) (kc (.int 3)))))) (kc (.int 4)))) (seqS (ifS (asB (v 2)) (setS 8 (op2 modD (op2 divD (v 6) (v 4)) (kc (.int 4)))) nxS) (seqS (setS 9 (op2 subD (op2 modD (op2 divD (v 7) (v 4)) (op2 mulD (kc (.int 2)) (v 4))) (kc (.int 1)))) (seqS (ifS (asB (op2 geD (v 9) (v 4))) (setS 9 (kc (.int (-1)))) nxS) (ifS (asB (op2 notND (callU F__law_scope [(v 0), (op2 modD (v 6) (v 4)), (op2 modD (v 7) (v 4))]) (kc .non))) (appS 3 (tupE [(op2 modD (v 6) (v 4)), (v 8), (v 9), (op2 modD (v 7) (v 4)), (op2 modD (op2 divD (v 6) (kc (.int 5))) (kc (.int 100)))])) nxS)))))))
def B__law_arrows : M Fl := (seqS (setM 3 (lstE [])) (seqS (setS 4 (callB lenD [(v 0)])) (seqS (forS 5 (itR1 (op2 divD (callB lenD [(v 1)]) (kc (.int 2)))) L__law_arrows_1) (retS [] (v 3)))))
def F__law_arrows : List D → FOut := defF 3 10 B__law_arrows
/-- _law_cells(script, start, many): script 0 start 1 many 2 k 3 -/
def B__law_cells : M Fl := (retS [] (compE 3 (itR1 (v 2)) yesT (callU F__law_cell_at [(v 0), (op2 addD (v 1) (v 3))])))
def F__law_cells : List D → FOut := defF 3 4 B__law_cells
/-- _law_pair(rooms, arrows, numbers): rooms 0 arrows 1 numbers 2 k 3 mine 4 j 5 other 6 nested 7 -/
def L__law_pair_2 : M Fl := (seqS (setS 6 (callU F__law_scope [(v 0), (op2 idxD (op2 idxD (v 1) (v 5)) (kc (.int 0))), (op2 idxD (op2 idxD (v 1) (v 5)) (kc (.int 3)))])) (seqS (setS 7 (orV (op2 inD (v 4) (callU F__law_chain [(v 0), (v 6)])) (op2 inD (v 6) (callU F__law_chain [(v 0), (v 4)])))) (ifS (andT (asB (op2 gtD (v 5) (v 3))) (asB (v 7))) (retS [] (tupE [(v 3), (v 5)])) nxS)))
def L__law_pair_1 : M Fl := (seqS (setS 4 (callU F__law_scope [(v 0), (op2 idxD (op2 idxD (v 1) (v 3)) (kc (.int 0))), (op2 idxD (op2 idxD (v 1) (v 3)) (kc (.int 3)))])) (forS 5 (itL (v 2)) L__law_pair_2))
def B__law_pair : M Fl := (seqS (forS 3 (itL (v 2)) L__law_pair_1) (retS [] (kc .non)))
def F__law_pair : List D → FOut := defF 3 8 B__law_pair
/-- _law_numbers(found, due): found 0 due 1 k 2 -/
def L__law_numbers_1 : M Fl := (ifS (orT (asB (isiE "bool" (op2 idxD (v 0) (v 2)))) (orT (notT (asB (isiE "int" (op2 idxD (v 0) (v 2))))) (asB (op2 neD (op2 idxD (v 0) (v 2)) (op2 idxD (v 1) (v 2)))))) (retS [] (kc (.bl false))) nxS)
def B__law_numbers : M Fl := (seqS (ifS (orT (notT (asB (isiE "list" (v 0)))) (asB (op2 neD (callB lenD [(v 0)]) (callB lenD [(v 1)])))) (retS [] (kc (.bl false))) nxS) (seqS (forS 2 (itR1 (callB lenD [(v 1)])) L__law_numbers_1) (retS [] (kc (.bl true)))))
def F__law_numbers : List D → FOut := defF 2 3 B__law_numbers
/-- _law_takeable(rooms, arrows, kept, event): rooms 0 arrows 1 kept 2 event 3 ready 4 k 5 arrow 6 found 7 further 8 j 9 -/
def L__law_takeable_1 : M Fl := (seqS (setS 6 (op2 idxD (v 1) (v 5))) (ifS (andT (asB (op2 inD (op2 idxD (v 6) (kc (.int 0))) (v 2))) (andT (asB (op2 eqD (op2 idxD (v 6) (kc (.int 1))) (v 3))) (orT (asB (op2 eqD (op2 idxD (v 6) (kc (.int 2))) (kc (.int (-1))))) (asB (op2 inD (op2 idxD (v 6) (kc (.int 2))) (v 2)))))) (appS 4 (v 5)) nxS))
def L__law_takeable_2 : M Fl := (seqS (setS 8 (compE 9 (itL (v 4)) (asB (op2 inD (op2 idxD (op2 idxD (v 1) (v 5)) (kc (.int 0))) (slcE (callU F__law_chain [(v 0), (op2 idxD (op2 idxD (v 1) (v 9)) (kc (.int 0)))]) (asI (kc (.int 1))) noI))) (v 9))) (ifS (asB (op2 eqD (v 8) (lstE []))) (appS 7 (v 5)) nxS))
def B__law_takeable : M Fl := (seqS (setM 4 (lstE [])) (seqS (forS 5 (itR1 (callB lenD [(v 1)])) L__law_takeable_1) (seqS (setM 7 (lstE [])) (seqS (forS 5 (itL (v 4)) L__law_takeable_2) (retS [] (v 7))))))
def F__law_takeable : List D → FOut := defF 4 10 B__law_takeable
/-- _law_gone(rooms, choice, arrow): rooms 0 choice 1 arrow 2 ring 3 first 4 turned 5 k 6 chain 7 -/
def L__law_gone_1 : M Fl := (ifS (andT (asB (op2 eqD (op2 idxD (op2 idxD (v 0) (v 6)) (kc (.int 1))) (kc (.str "one")))) (asB (op2 inD (v 3) (slcE (callU F__law_chain [(v 0), (v 6)]) (asI (kc (.int 1))) noI)))) (putS 5 (v 6) (op2 idxD (v 4) (v 6))) nxS)
def L__law_gone_2 : M Fl := (ifS (asB (op2 neD (op2 idxD (op2 idxD (v 0) (op2 idxD (op2 idxD (v 0) (v 6)) (kc (.int 0)))) (kc (.int 1))) (kc (.str "all")))) (putS 5 (op2 idxD (op2 idxD (v 0) (v 6)) (kc (.int 0))) (v 6)) nxS)
def B__law_gone : M Fl := (seqS (setS 3 (callU F__law_scope [(v 0), (op2 idxD (v 2) (kc (.int 0))), (op2 idxD (v 2) (kc (.int 3)))])) (seqS (setS 4 (callU F__law_first [(v 0)])) (seqS (setM 5 (callB listD [(v 1)])) (seqS (forS 6 (itR1 (callB lenD [(v 0)])) L__law_gone_1) (seqS (setS 7 (callU F__law_chain [(v 0), (op2 idxD (v 2) (kc (.int 3)))])) (seqS (forS 6 (itL (slcE (v 7) noI (asI (indexE (v 7) (v 3))))) L__law_gone_2) (retS [] (v 5))))))))
def F__law_gone : List D → FOut := defF 3 8 B__law_gone
/-- _law_behind(rooms, arrows, choice, taken): rooms 0 arrows 1 choice 2 taken 3 k 4 -/
def L__law_behind_1 : M Fl := (setS 2 (callU F__law_gone [(v 0), (v 2), (op2 idxD (v 1) (v 4))]))
def B__law_behind : M Fl := (seqS (forS 4 (itL (v 3)) L__law_behind_1) (retS [] (v 2)))
def F__law_behind : List D → FOut := defF 4 5 B__law_behind
/-- _law_walked(rooms, arrows, events): rooms 0 arrows 1 events 2 choice 3 event 4 taken 5 -/
def L__law_walked_1 : M Fl := (seqS (setS 5 (callU F__law_takeable [(v 0), (v 1), (callU F__law_kept [(v 0), (v 3)]), (v 4)])) (ifS (asB (op2 isND (callU F__law_pair [(v 0), (v 1), (v 5)]) (kc .non))) (setS 3 (callU F__law_behind [(v 0), (v 1), (v 3), (v 5)])) nxS))
def B__law_walked : M Fl := (seqS (setS 3 (callU F__law_first [(v 0)])) (seqS (forS 4 (itL (v 2)) L__law_walked_1) (retS [] (v 3))))
def F__law_walked : List D → FOut := defF 3 6 B__law_walked
/-- _law_framed(script, start, clashing): script 0 start 1 clashing 2 cell 3 one 4 other 5 far 6 out 7 rooms 8 k 9 deeds 10 arrows 11 event 12 -/
def B__law_framed : M Fl := (seqS (setS 3 (callU F__law_cell_at [(v 0), (v 1)])) (seqS (setS 4 (op2 addD (kc (.int 2)) (op2 modD (v 3) (kc (.int 2))))) (seqS (setS 5 (op2 addD (kc (.int 2)) (op2 modD (op2 divD (v 3) (kc (.int 2))) (kc (.int 2))))) (seqS (setS 6 (op2 addD (kc (.int 4)) (v 4))) (seqS (setS 7 (op2 addD (v 6) (v 5))) (seqS (setS 8 (lstE [(tupE [(kc (.int (-1))), (kc (.str "one"))]), (tupE [(kc (.int 0)), (kc (.str "all"))]), (tupE [(kc (.int 1)), (op2 idxD (lstE [(kc (.str "keep")), (kc (.str "one"))]) (op2 modD (op2 divD (v 3) (kc (.int 4))) (kc (.int 2))))]), (tupE [(kc (.int 1)), (op2 idxD (lstE [(kc (.str "keep")), (kc (.str "one"))]) (op2 modD (op2 divD (v 3) (kc (.int 8))) (kc (.int 2))))])])) (seqS (setS 8 (op2 addD (op2 addD (op2 addD (v 8) (compE 9 (itR1 (v 4)) yesT (tupE [(kc (.int 2)), (kc (.str "plain"))]))) (compE 9 (itR1 (v 5)) yesT (tupE [(kc (.int 3)), (kc (.str "plain"))]))) (lstE [(tupE [(kc (.int 0)), (kc (.str "plain"))])]))) (seqS (setS 10 (compE 9 (itR1 (kc (.int 10))) yesT (op2 modD (op2 divD (callU F__law_cell_at [(v 0), (op2 addD (op2 addD (v 1) (kc (.int 1))) (op2 modD (v 9) (kc (.int 5))))]) (op2 addD (kc (.int 1)) (op2 mulD (op2 divD (v 9) (kc (.int 5))) (kc (.int 3))))) (kc (.int 2))))) (seqS (setM 11 (compE 9 (itR1 (v 4)) yesT (tupE [(op2 addD (kc (.int 4)) (v 9)), (kc (.int 0)), (kc (.int (-1))), (op2 addD (kc (.int 4)) (op2 modD (op2 addD (v 9) (kc (.int 1))) (v 4))), (op2 idxD (v 10) (v 9))]))) (seqS (setS 12 (op2 idxD (lstE [(kc (.int 0)), (kc (.int 0)), (kc (.int 3))]) (op2 modD (op2 divD (v 3) (kc (.int 16))) (kc (.int 3))))) (seqS (setM 11 (op2 addD (v 11) (compE 9 (itR1 (v 5)) yesT (tupE [(op2 addD (v 6) (v 9)), (v 12), (kc (.int (-1))), (op2 addD (v 6) (op2 modD (op2 addD (v 9) (kc (.int 1))) (v 5))), (op2 idxD (v 10) (op2 addD (kc (.int 3)) (v 9)))])))) (seqS (appS 11 (tupE [(kc (.int 1)), (kc (.int 1)), (op2 idxD (lstE [(kc (.int (-1))), (kc (.int 5)), (op2 addD (v 6) (kc (.int 1)))]) (op2 modD (op2 divD (v 3) (kc (.int 48))) (kc (.int 3)))), (v 7), (op2 idxD (v 10) (kc (.int 6)))])) (seqS (appS 11 (tupE [(v 7), (kc (.int 2)), (kc (.int (-1))), (op2 idxD (lstE [(kc (.int 1)), (kc (.int 2)), (kc (.int 5))]) (op2 modD (op2 divD (v 3) (kc (.int 144))) (kc (.int 3)))), (op2 idxD (v 10) (kc (.int 7)))])) (seqS (ifS (andT (asB (v 2)) (asB (op2 eqD (op2 modD (op2 divD (v 3) (kc (.int 432))) (kc (.int 3))) (kc (.int 1))))) (seqS (appS 11 (tupE [(kc (.int 5)), (kc (.int 3)), (kc (.int (-1))), (v 7), (kc (.int 7))])) (appS 11 (tupE [(op2 addD (v 6) (kc (.int 1))), (kc (.int 3)), (kc (.int (-1))), (v 6), (kc (.int 8))]))) nxS) (retS [] (tupE [(v 8), (v 11)]))))))))))))))))
def F__law_framed : List D → FOut := defF 3 13 B__law_framed
/-- _law_rows_same(found, due): found 0 due 1 k 2 -/
def L__law_rows_same_1 : M Fl := (ifS (notT (asB (callU F__law_row [(op2 idxD (v 0) (v 2)), (op2 idxD (v 1) (v 2))]))) (retS [] (kc (.bl false))) nxS)
def B__law_rows_same : M Fl := (seqS (ifS (orT (notT (asB (isiE "list" (v 0)))) (asB (op2 neD (callB lenD [(v 0)]) (callB lenD [(v 1)])))) (retS [] (kc (.bl false))) nxS) (seqS (forS 2 (itR1 (callB lenD [(v 1)])) L__law_rows_same_1) (retS [] (kc (.bl true)))))
def F__law_rows_same : List D → FOut := defF 2 3 B__law_rows_same
/-- _law_told(rooms, arrows, events): rooms 0 arrows 1 events 2 choice 3 told 4 k 5 taken 6 pair 7 j 8 -/
def L__law_told_1 : M Fl := (seqS (setS 6 (callU F__law_takeable [(v 0), (v 1), (callU F__law_kept [(v 0), (v 3)]), (op2 idxD (v 2) (v 5))])) (seqS (setS 7 (callU F__law_pair [(v 0), (v 1), (v 6)])) (seqS (ifS (asB (op2 notND (v 7) (kc .non))) (retS [] (tupE [(callB tupleD [(slcE (v 2) noI (asI (op2 addD (v 5) (kc (.int 1)))))]), (v 7)])) nxS) (seqS (setS 3 (callU F__law_behind [(v 0), (v 1), (v 3), (v 6)])) (appS 4 (callB tupleD [(compE 8 (itL (v 6)) yesT (op2 idxD (op2 idxD (v 1) (v 8)) (kc (.int 4))))]))))))
def B__law_told : M Fl := (seqS (setS 3 (callU F__law_first [(v 0)])) (seqS (setM 4 (lstE [])) (seqS (forS 5 (itR1 (callB lenD [(v 2)])) L__law_told_1) (retS [] (tupE [(kc .non), (tupE [(callU F__law_state [(v 0), (v 3)]), (v 4)])])))))
def F__law_told : List D → FOut := defF 3 9 B__law_told
/-- run(chart, events): chart 0 events 1 state 2 told 3 k 4 pair 5 behind 6 -/
def L_run_1 : M Fl := (seqS (setS 5 (callU F_clash_of [(v 0), (callU F_takeable [(v 0), (op2 idxD (v 2) (kc (.int 0))), (op2 idxD (v 1) (v 4))])])) (seqS (ifS (asB (op2 notND (v 5) (kc .non))) (raiC [(callB tupleD [(slcE (v 1) noI (asI (op2 addD (v 4) (kc (.int 1)))))]), (op2 idxD (v 5) (kc (.int 0))), (op2 idxD (v 5) (kc (.int 1)))]) nxS) (seqS (setS 6 (callU F_stepped [(v 0), (v 2), (op2 idxD (v 1) (v 4))])) (seqS (setS 2 (op2 idxD (v 6) (kc (.int 0)))) (appS 3 (op2 idxD (v 6) (kc (.int 1))))))))
def B_run : M Fl := (seqS (setS 2 (callU F_started [(v 0)])) (seqS (setM 3 (lstE [])) (seqS (forS 4 (itR1 (callB lenD [(v 1)])) L_run_1) (retS [] (tupE [(v 2), (v 3)])))))
def F_run : List D → FOut := defF 2 7 B_run
/-- _law_unlike_arrows(rooms, cells): rooms 0 cells 1 arrows 2 many 3 k 4 one 5 two 6 guard 7 -/
def L__law_unlike_arrows_1 : M Fl := (seqS (setS 5 (op2 idxD (v 1) (op2 mulD (kc (.int 2)) (v 4)))) (seqS (setS 6 (op2 idxD (v 1) (op2 addD (op2 mulD (kc (.int 2)) (v 4)) (kc (.int 1))))) (seqS (setS 7 (op2 subD (op2 modD (op2 divD (v 6) (v 3)) (op2 mulD (kc (.int 2)) (v 3))) (kc (.int 1)))) (seqS (ifS (asB (op2 geD (v 7) (v 3))) (setS 7 (kc (.int (-1)))) nxS) (ifS (asB (op2 notND (callU F__law_scope [(v 0), (op2 modD (v 5) (v 3)), (op2 modD (v 6) (v 3))]) (kc .non))) (appS 2 (tupE [(op2 modD (v 5) (v 3)), (v 4), (v 7), (op2 modD (v 6) (v 3)), (op2 modD (op2 divD (v 5) (kc (.int 5))) (kc (.int 100)))])) nxS)))))
def B__law_unlike_arrows : M Fl := (seqS (setM 2 (lstE [])) (seqS (setS 3 (callB lenD [(v 0)])) (seqS (forS 4 (itR1 (kc (.int 4))) L__law_unlike_arrows_1) (retS [] (v 2)))))
def F__law_unlike_arrows : List D → FOut := defF 2 8 B__law_unlike_arrows
/-- _law_going(rooms, arrows, events): rooms 0 arrows 1 events 2 choice 3 told 4 event 5 taken 6 k 7 -/
def L__law_going_1 : M Fl := (seqS (setS 6 (callU F__law_takeable [(v 0), (v 1), (callU F__law_kept [(v 0), (v 3)]), (v 5)])) (seqS (setS 3 (callU F__law_behind [(v 0), (v 1), (v 3), (v 6)])) (appS 4 (callB tupleD [(compE 7 (itL (v 6)) yesT (op2 idxD (op2 idxD (v 1) (v 7)) (kc (.int 4))))]))))
def B__law_going : M Fl := (seqS (setS 3 (callU F__law_first [(v 0)])) (seqS (setM 4 (lstE [])) (seqS (forS 5 (itL (v 2)) L__law_going_1) (retS [] (tupE [(callU F__law_state [(v 0), (v 3)]), (v 4)])))))
def F__law_going : List D → FOut := defF 3 8 B__law_going
/-- _law_no_later(way, other): way 0 other 1 k 2 -/
def L__law_no_later_1 : M Fl := (ifS (asB (op2 neD (op2 idxD (v 0) (v 2)) (op2 idxD (v 1) (v 2)))) (retS [] (op2 ltD (op2 idxD (v 0) (v 2)) (op2 idxD (v 1) (v 2)))) nxS)
def B__law_no_later : M Fl := (seqS (ifS (asB (op2 neD (callB lenD [(v 0)]) (callB lenD [(v 1)]))) (retS [] (op2 ltD (callB lenD [(v 0)]) (callB lenD [(v 1)]))) nxS) (seqS (forS 2 (itR1 (callB lenD [(v 0)])) L__law_no_later_1) (retS [] (kc (.bl true)))))
def F__law_no_later : List D → FOut := defF 2 3 B__law_no_later
/-- _law_ways_right(flat, rooms, arrows): flat 0 rooms 1 arrows 2 k 3 way 4 last 5 event 6 behind 7 -/
def L__law_ways_right_2 : M Fl := (seqS (setS 7 (op2 idxD (fldE "Flat" "ways" (v 0)) (op2 idxD (op2 idxD (op2 idxD (fldE "Flat" "rows" (v 0)) (v 3)) (v 6)) (kc (.int 0))))) (ifS (notT (asB (callU F__law_no_later [(v 7), (op2 addD (v 4) (tupE [(v 6)]))]))) (retS [] (kc (.bl false))) nxS))
def L__law_ways_right_1 : M Fl := (seqS (setS 4 (op2 idxD (fldE "Flat" "ways" (v 0)) (v 3))) (seqS (ifS (orT (notT (asB (isiE "tuple" (v 4)))) (asB (op2 neD (indexE (fldE "Flat" "states" (v 0)) (op2 idxD (fldE "Flat" "states" (v 0)) (v 3))) (v 3)))) (retS [] (kc (.bl false))) nxS) (seqS (ifS (notT (asB (callU F__law_same_state [(op2 idxD (fldE "Flat" "states" (v 0)) (v 3)), (op2 idxD (callU F__law_going [(v 1), (v 2), (callB listD [(v 4)])]) (kc (.int 0)))]))) (retS [] (kc (.bl false))) nxS) (seqS (ifS (asB (op2 gtD (v 3) (kc (.int 0)))) (seqS (setS 5 (op2 idxD (fldE "Flat" "ways" (v 0)) (op2 subD (v 3) (kc (.int 1))))) (ifS (orT (asB (op2 eqD (v 4) (v 5))) (notT (asB (callU F__law_no_later [(v 5), (v 4)])))) (retS [] (kc (.bl false))) nxS)) nxS) (forS 6 (itR1 (kc (.int 4))) L__law_ways_right_2)))))
def B__law_ways_right : M Fl := (seqS (forS 3 (itR1 (callB lenD [(fldE "Flat" "states" (v 0))])) L__law_ways_right_1) (retS [] (kc (.bl true))))
def F__law_ways_right : List D → FOut := defF 3 8 B__law_ways_right
/-- _law_fold_row(rooms, arrows, choices, ways, here): rooms 0 arrows 1 choices 2 ways 3 here 4 row 5 event 6 taken 7 pair 8 choice 9 k 10 -/
def L__law_fold_row_1 : M Fl := (seqS (setS 7 (callU F__law_takeable [(v 0), (v 1), (callU F__law_kept [(v 0), (op2 idxD (v 2) (v 4))]), (v 6)])) (seqS (setS 8 (callU F__law_pair [(v 0), (v 1), (v 7)])) (seqS (ifS (asB (op2 notND (v 8) (kc .non))) (retS [0, 1, 2, 3, 4] (tupE [(op2 addD (op2 idxD (v 3) (v 4)) (tupE [(v 6)])), (v 8)])) nxS) (seqS (setS 9 (callU F__law_behind [(v 0), (v 1), (op2 idxD (v 2) (v 4)), (v 7)])) (seqS (ifS (asB (op2 ninD (v 9) (v 2))) (seqS (appS 2 (v 9)) (appS 3 (op2 addD (op2 idxD (v 3) (v 4)) (tupE [(v 6)])))) nxS) (appS 5 (tupE [(indexE (v 2) (v 9)), (callB tupleD [(compE 10 (itL (v 7)) yesT (op2 idxD (op2 idxD (v 1) (v 10)) (kc (.int 4))))])])))))))
def B__law_fold_row : M Fl := (seqS (setM 5 (lstE [])) (seqS (forS 6 (itR1 (kc (.int 4))) L__law_fold_row_1) (retS [0, 1, 2, 3, 4] (tupE [(kc .non), (v 5)]))))
def F__law_fold_row : List D → FOut := defF 5 11 B__law_fold_row
/-- _law_fold(rooms, arrows): rooms 0 arrows 1 choices 2 ways 3 rows 4 one 5 choice 6 -/
def L__law_fold_1 : M Fl := (seqS (setS 5 (callO B__law_fold_row 11 [false, false, true, true, false] [(v 0), (v 1), (v 2), (v 3), (callB lenD [(v 4)])])) (seqS (ifS (asB (op2 notND (op2 idxD (v 5) (kc (.int 0))) (kc .non))) (retS [] (tupE [(v 5), (kc .non)])) nxS) (appS 4 (op2 idxD (v 5) (kc (.int 1))))))
def B__law_fold : M Fl := (seqS (setM 2 (lstE [(callU F__law_first [(v 0)])])) (seqS (setM 3 (lstE [(tupE [])])) (seqS (setM 4 (lstE [])) (seqS (whileS (asB (op2 ltD (callB lenD [(v 4)]) (callB lenD [(v 2)]))) L__law_fold_1) (retS [] (tupE [(kc .non), (tupE [(compE 6 (itL (v 2)) yesT (callU F__law_state [(v 0), (v 6)])), (v 4), (v 3)])]))))))
def F__law_fold : List D → FOut := defF 2 7 B__law_fold
/-- _law_entries(found, due): found 0 due 1 k 2 entry 3 -/
def L__law_entries_1 : M Fl := (seqS (setS 3 (op2 idxD (v 0) (v 2))) (seqS (ifS (orT (notT (asB (isiE "tuple" (v 3)))) (orT (asB (op2 neD (callB lenD [(v 3)]) (kc (.int 2)))) (asB (isiE "bool" (op2 idxD (v 3) (kc (.int 0))))))) (retS [] (kc (.bl false))) nxS) (ifS (orT (notT (asB (isiE "int" (op2 idxD (v 3) (kc (.int 0)))))) (orT (asB (op2 neD (op2 idxD (v 3) (kc (.int 0))) (op2 idxD (op2 idxD (v 1) (v 2)) (kc (.int 0))))) (notT (asB (callU F__law_row [(op2 idxD (v 3) (kc (.int 1))), (op2 idxD (op2 idxD (v 1) (v 2)) (kc (.int 1)))]))))) (retS [] (kc (.bl false))) nxS)))
def B__law_entries : M Fl := (seqS (ifS (orT (notT (asB (isiE "list" (v 0)))) (asB (op2 neD (callB lenD [(v 0)]) (callB lenD [(v 1)])))) (retS [] (kc (.bl false))) nxS) (seqS (forS 2 (itR1 (callB lenD [(v 1)])) L__law_entries_1) (retS [] (kc (.bl true)))))
def F__law_entries : List D → FOut := defF 2 4 B__law_entries
/-- _law_folded_right(tried, due): tried 0 due 1 found 2 refused 3 told 4 k 5 -/
def L__law_folded_right_1 : M Fl := (ifS (orT (notT (asB (isiE "list" (v 4)))) (asB (op2 neD (callB lenD [(v 4)]) (callB lenD [(op2 idxD (op2 idxD (v 1) (kc (.int 1))) (kc (.int 0)))])))) (retS [] (kc (.bl false))) nxS)
def L__law_folded_right_2 : M Fl := (seqS (ifS (notT (asB (callU F__law_same_state [(op2 idxD (fldE "Flat" "states" (v 2)) (v 5)), (op2 idxD (op2 idxD (op2 idxD (v 1) (kc (.int 1))) (kc (.int 0))) (v 5))]))) (retS [] (kc (.bl false))) nxS) (ifS (orT (notT (asB (callU F__law_entries [(op2 idxD (fldE "Flat" "rows" (v 2)) (v 5)), (op2 idxD (op2 idxD (op2 idxD (v 1) (kc (.int 1))) (kc (.int 1))) (v 5))]))) (notT (asB (callU F__law_row [(op2 idxD (fldE "Flat" "ways" (v 2)) (v 5)), (op2 idxD (op2 idxD (op2 idxD (v 1) (kc (.int 1))) (kc (.int 2))) (v 5))])))) (retS [] (kc (.bl false))) nxS))
def B__law_folded_right : M Fl := (seqS (setS 2 (op2 idxD (v 0) (kc (.int 0)))) (seqS (setS 3 (op2 idxD (v 0) (kc (.int 1)))) (seqS (ifS (asB (op2 notND (op2 idxD (v 1) (kc (.int 0))) (kc .non))) (seqS (ifS (orT (asB (op2 notND (v 2) (kc .non))) (asB (op2 isND (v 3) (kc .non)))) (retS [] (kc (.bl false))) nxS) (retS [] (andV (callU F__law_row [(op2 idxD (v 3) (kc (.int 0))), (op2 idxD (op2 idxD (v 1) (kc (.int 0))) (kc (.int 0)))]) (callU F__law_row [(op2 idxD (v 3) (kc (.int 1))), (op2 idxD (op2 idxD (v 1) (kc (.int 0))) (kc (.int 1)))])))) nxS) (seqS (ifS (orT (asB (op2 notND (v 3) (kc .non))) (notT (asB (isoE "Flat" (v 2))))) (retS [] (kc (.bl false))) nxS) (seqS (forS 4 (itT (tupE [(fldE "Flat" "states" (v 2)), (fldE "Flat" "rows" (v 2)), (fldE "Flat" "ways" (v 2))])) L__law_folded_right_1) (seqS (forS 5 (itR1 (callB lenD [(op2 idxD (op2 idxD (v 1) (kc (.int 1))) (kc (.int 0)))])) L__law_folded_right_2) (retS [] (kc (.bl true)))))))))
def F__law_folded_right : List D → FOut := defF 2 6 B__law_folded_right
/-- _law_tried(chart): chart 0 found 1 refused 2 e 3 -/
def B__law_tried : M Fl := (seqS (setS 1 (kc .non)) (seqS (setS 2 (kc .non)) (seqS (tryA "Clash" 3 (setS 1 (callU F_folded [(v 0)])) (setS 2 (tupE [(xfE "events" 3), (tupE [(xfE "first" 3), (xfE "second" 3)])]))) (retS [] (tupE [(v 1), (v 2)])))))
def F__law_tried : List D → FOut := defF 1 4 B__law_tried
/-- flat_run(flat, events): flat 0 events 1 here 2 told 3 event 4 pair 5 -/
def L_flat_run_1 : M Fl := (seqS (setS 5 (op2 idxD (op2 idxD (fldE "Flat" "rows" (v 0)) (v 2)) (v 4))) (seqS (appS 3 (op2 idxD (v 5) (kc (.int 1)))) (setS 2 (op2 idxD (v 5) (kc (.int 0))))))
def B_flat_run : M Fl := (seqS (setS 2 (kc (.int 0))) (seqS (setM 3 (lstE [])) (seqS (forS 4 (itL (v 1)) L_flat_run_1) (retS [] (tupE [(v 2), (v 3)])))))
def F_flat_run : List D → FOut := defF 2 6 B_flat_run
/-- _law_far_round(rows, far, turn): rows 0 far 1 turn 2 found 3 a 4 line 5 b 6 event 7 mine 8 theirs 9 -/
def L__law_far_round_3 : M Fl := (seqS (setS 8 (op2 idxD (op2 idxD (v 0) (v 4)) (v 7))) (seqS (setS 9 (op2 idxD (op2 idxD (v 0) (v 6)) (v 7))) (seqS (ifS (andT (asB (op2 eqD (op2 idxD (v 5) (v 6)) (kc (.int 0)))) (andT (asB (op2 eqD (v 2) (kc (.int 1)))) (asB (op2 neD (op2 idxD (v 8) (kc (.int 1))) (op2 idxD (v 9) (kc (.int 1))))))) (putS 5 (v 6) (kc (.int 1))) nxS) (ifS (andT (asB (op2 eqD (op2 idxD (v 5) (v 6)) (kc (.int 0)))) (andT (asB (op2 gtD (v 2) (kc (.int 1)))) (asB (op2 eqD (op2 idxD (op2 idxD (v 1) (op2 idxD (v 8) (kc (.int 0)))) (op2 idxD (v 9) (kc (.int 0)))) (op2 subD (v 2) (kc (.int 1))))))) (putS 5 (v 6) (v 2)) nxS))))
def L__law_far_round_2 : M Fl := (forS 7 (itR1 (kc (.int 4))) L__law_far_round_3)
def L__law_far_round_1 : M Fl := (seqS (setM 5 (callB listD [(op2 idxD (v 1) (v 4))])) (seqS (forS 6 (itR1 (callB lenD [(v 0)])) L__law_far_round_2) (appS 3 (v 5))))
def B__law_far_round : M Fl := (seqS (setM 3 (lstE [])) (seqS (forS 4 (itR1 (callB lenD [(v 0)])) L__law_far_round_1) (retS [] (v 3))))
def F__law_far_round : List D → FOut := defF 3 10 B__law_far_round
/-- _law_far(rows): rows 0 far 1 b 2 a 3 turn 4 turned 5 -/
def L__law_far_1 : M Fl := (seqS (setS 5 (callU F__law_far_round [(v 0), (v 1), (v 4)])) (seqS (ifS (asB (op2 eqD (v 5) (v 1))) (retS [] (v 1)) nxS) (setS 1 (v 5))))
def B__law_far : M Fl := (seqS (setS 1 (compE 3 (itL (v 0)) yesT (compE 2 (itL (v 0)) yesT (kc (.int 0))))) (seqS (forS 4 (itR2 (kc (.int 1)) (op2 addD (callB lenD [(v 0)]) (kc (.int 1)))) L__law_far_1) (retS [] (v 1))))
def F__law_far : List D → FOut := defF 1 6 B__law_far
/-- _law_machine(script, many): script 0 many 1 some 2 rows 3 k 4 row 5 event 6 cell 7 mixed 8 deeds 9 -/
def L__law_machine_2 : M Fl := (seqS (setS 7 (callU F__law_cell_at [(v 0), (op2 addD (kc (.int 2)) (op2 modD (op2 addD (op2 mulD (kc (.int 4)) (v 4)) (v 6)) (kc (.int 56))))])) (seqS (setS 8 (op2 modD (op2 addD (op2 mulD (v 7) (kc (.int 48271))) (op2 mulD (kc (.int 7919)) (op2 addD (op2 mulD (kc (.int 4)) (v 4)) (v 6)))) (kc (.int 10007)))) (seqS (setS 9 (tupE [])) (seqS (ifS (asB (op2 leD (v 6) (op2 modD (op2 divD (callU F__law_cell_at [(v 0), (kc (.int 1))]) (kc (.int 64))) (kc (.int 4))))) (setS 9 (op2 idxD (v 2) (op2 modD (op2 divD (v 8) (kc (.int 30))) (kc (.int 6))))) nxS) (appS 5 (tupE [(op2 modD (v 8) (v 1)), (v 9)]))))))
def L__law_machine_1 : M Fl := (seqS (setM 5 (lstE [])) (seqS (forS 6 (itR1 (kc (.int 4))) L__law_machine_2) (appS 3 (v 5))))
def B__law_machine : M Fl := (seqS (setS 2 (lstE [(tupE []), (tupE [(kc (.int 5))]), (tupE [(kc (.int 5)), (kc (.int 7))]), (tupE []), (tupE [(kc (.int 0))]), (tupE [(kc (.int 5))])])) (seqS (setM 3 (lstE [])) (seqS (forS 4 (itR1 (v 1)) L__law_machine_1) (retS [] (v 3)))))
def F__law_machine : List D → FOut := defF 2 10 B__law_machine
/-- grouped(marks): marks 0 mark 1 -/
def B_grouped : M Fl := (retS [] (compE 1 (itL (v 0)) yesT (indexE (v 0) (v 1))))
def F_grouped : List D → FOut := defF 1 2 B_grouped
/-- alike(flat): flat 0 groups 1 pair 2 row 3 turn 4 marks 5 k 6 -/
def L_alike_2 : M Fl := (appS 5 (op2 addD (lstE [(op2 idxD (v 1) (v 6))]) (compE 2 (itL (op2 idxD (fldE "Flat" "rows" (v 0)) (v 6))) yesT (op2 idxD (v 1) (op2 idxD (v 2) (kc (.int 0)))))))
def L_alike_1 : M Fl := (seqS (setM 5 (lstE [])) (seqS (forS 6 (itR1 (callB lenD [(fldE "Flat" "rows" (v 0))])) L_alike_2) (setS 1 (callU F_grouped [(v 5)]))))
def B_alike : M Fl := (seqS (setS 1 (callU F_grouped [(compE 3 (itL (fldE "Flat" "rows" (v 0))) yesT (compE 2 (itL (v 3)) yesT (op2 idxD (v 2) (kc (.int 1)))))])) (seqS (forS 4 (itR1 (callB lenD [(fldE "Flat" "rows" (v 0))])) L_alike_1) (retS [] (v 1))))
def F_alike : List D → FOut := defF 1 7 B_alike
/-- _law_word(rows, far, one, other): rows 0 far 1 one 2 other 3 word 4 left 5 event 6 mine 7 theirs 8 good 9 -/
def L__law_word_2 : M Fl := (seqS (setS 7 (op2 idxD (op2 idxD (v 0) (v 2)) (v 6))) (seqS (setS 8 (op2 idxD (op2 idxD (v 0) (v 3)) (v 6))) (seqS (setS 9 (op2 eqD (op2 idxD (op2 idxD (v 1) (op2 idxD (v 7) (kc (.int 0)))) (op2 idxD (v 8) (kc (.int 0)))) (op2 subD (v 5) (kc (.int 1))))) (seqS (ifS (asB (op2 eqD (v 5) (kc (.int 1)))) (setS 9 (op2 neD (op2 idxD (v 7) (kc (.int 1))) (op2 idxD (v 8) (kc (.int 1))))) nxS) (ifS (asB (v 9)) (fun e => .ok .bk e) nxS)))))
def L__law_word_1 : M Fl := (seqS (forS 6 (itR1 (kc (.int 4))) L__law_word_2) (seqS (appS 4 (v 6)) (seqS (setS 2 (op2 idxD (op2 idxD (op2 idxD (v 0) (v 2)) (v 6)) (kc (.int 0)))) (seqS (setS 3 (op2 idxD (op2 idxD (op2 idxD (v 0) (v 3)) (v 6)) (kc (.int 0)))) (setS 5 (op2 subD (v 5) (kc (.int 1))))))))
def B__law_word : M Fl := (seqS (setM 4 (lstE [])) (seqS (setS 5 (op2 idxD (op2 idxD (v 1) (v 2)) (v 3))) (seqS (whileS (asB (op2 gtD (v 5) (kc (.int 0)))) L__law_word_1) (retS [] (callB tupleD [(v 4)])))))
def F__law_word : List D → FOut := defF 4 10 B__law_word
/-- parted(flat, one, other): flat 0 one 1 other 2 pairs 3 ways 4 here 5 mine 6 theirs 7 event 8 pair 9 -/
def L_parted_2 : M Fl := (seqS (ifS (asB (op2 neD (op2 idxD (op2 idxD (v 6) (v 8)) (kc (.int 1))) (op2 idxD (op2 idxD (v 7) (v 8)) (kc (.int 1))))) (retS [] (op2 addD (op2 idxD (v 4) (v 5)) (tupE [(v 8)]))) nxS) (seqS (setS 9 (tupE [(op2 idxD (op2 idxD (v 6) (v 8)) (kc (.int 0))), (op2 idxD (op2 idxD (v 7) (v 8)) (kc (.int 0)))])) (ifS (asB (op2 ninD (v 9) (v 3))) (seqS (appS 3 (v 9)) (appS 4 (op2 addD (op2 idxD (v 4) (v 5)) (tupE [(v 8)])))) nxS)))
def L_parted_1 : M Fl := (seqS (setS 6 (op2 idxD (fldE "Flat" "rows" (v 0)) (op2 idxD (op2 idxD (v 3) (v 5)) (kc (.int 0))))) (seqS (setS 7 (op2 idxD (fldE "Flat" "rows" (v 0)) (op2 idxD (op2 idxD (v 3) (v 5)) (kc (.int 1))))) (seqS (forS 8 (itR1 (kc (.int 4))) L_parted_2) (setS 5 (op2 addD (v 5) (kc (.int 1)))))))
def B_parted : M Fl := (seqS (setM 3 (lstE [(tupE [(v 1), (v 2)])])) (seqS (setM 4 (lstE [(tupE [])])) (seqS (setS 5 (kc (.int 0))) (seqS (whileS (asB (op2 ltD (v 5) (callB lenD [(v 3)]))) L_parted_1) (retS [] (kc .non))))))
def F_parted : List D → FOut := defF 3 10 B_parted
end My
set_option Elab.async false
set_option linter.all false
set_option maxRecDepth 100000
set_option maxHeartbeats 4000000
set_option autoImplicit false
noncomputable section
namespace My
open PySem PySem.Spec L2 DL
open PyProof.Rows hiding St
/-! ### cells of the script -/
def cl (ns : List Int) (k : Int) : Int := ns.getD k.toNat 0
theorem cell_eq {ns : List Int} {k : Int} (h : 0 ≤ k) : F__law_cell_at [.scr ns, .int k] = .ok (.sh (.int (cl ns k))) := by
  by_cases hk : k < ns.length
  · have hg : atI ns k = some (cl ns k) := atI_get h (by rw [cl, List.getD_eq_getElem?_getD, List.getElem?_eq_getElem (by omega)]; rfl)
    simp [F__law_cell_at, B__law_cell_at, hk, hg]
  · have hg : cl ns k = 0 := by rw [cl, List.getD_eq_getElem?_getD, List.getElem?_eq_none (by omega)]; rfl
    simp [F__law_cell_at, B__law_cell_at, hk, hg]
end My
set_option Elab.async false
set_option linter.all false
set_option maxRecDepth 100000
set_option maxHeartbeats 4000000
set_option autoImplicit false
noncomputable section
namespace My
open PySem PySem.Spec L2 DL
open PyProof.Rows hiding St
/-! ### numbers, rows -/
def nI (n : Nat) : D := .int n
theorem in_nI {k : Nat} {T : List Nat} : inD (.int k) (.lst (T.map nI)) = some (.sh (.bl (decide (k ∈ T)))) := by
  have := o_inL (i := (k : Int)) (xs := T.map fun n : Nat => (n : Int))
  rw [List.map_map] at this
  rw [show (D.int ∘ fun n : Nat => (n : Int)) = nI from rfl] at this
  rw [this]
  congr 4
  apply propext
  simp only [List.mem_map]
  constructor
  · rintro ⟨x, hx, e⟩
    have : x = k := by omega
    rwa [← this]
  · intro h; exact ⟨k, h, rfl⟩
theorem ok_nI {xs : List Nat} : (D.lst (xs.map nI)).ok = true := by
  have := ok_ints (ns := xs.map fun n : Nat => (n : Int))
  rw [List.map_map] at this
  exact this
def cI (n : Nat) : Int := n
theorem nI_cI {xs : List Nat} : xs.map nI = (xs.map cI).map D.int := by rw [List.map_map]; rfl
theorem nI_inj : ∀ {xs ys : List Nat}, xs.map nI = ys.map nI → xs = ys
  | [], [], _ => rfl
  | [], _ :: _, h => by cases h
  | _ :: _, [], h => by cases h
  | x :: xs, y :: ys, h => by
    rw [List.map_cons, List.map_cons] at h
    obtain ⟨h1, h2⟩ := List.cons.inj h
    have : x = y := by unfold nI at h1; cases h1; rfl
    rw [this, nI_inj h2]
theorem int_inj : ∀ {xs ys : List Int}, xs.map D.int = ys.map D.int → xs = ys
  | [], [], _ => rfl
  | [], _ :: _, h => by cases h
  | _ :: _, [], h => by cases h
  | x :: xs, y :: ys, h => by
    rw [List.map_cons, List.map_cons] at h
    obtain ⟨h1, h2⟩ := List.cons.inj h
    have : x = y := by cases h1; rfl
    rw [this, int_inj h2]
def eT (ds : List Int) : D := .tup (ds.map .int)
abbrev Rw := List (Nat × List Int)
def eE (p : Nat × List Int) : D := .tup [.int p.1, eT p.2]
def eRow (r : Rw) : D := .lst (r.map eE)
theorem ok_eT {w : List Int} : (eT w).ok = true := ok_intsT
theorem eT_inj {u w : List Int} : eT u = eT w ↔ u = w := by
  constructor
  · intro h
    unfold eT at h
    injection h with h
    exact int_inj h
  · intro h; rw [h]
theorem lkS {a b c : D} : List.lookup ("states" : Str) [(("states" : Str), a), ("rows", b), ("ways", c)] = some a := rfl
theorem lkRo {a b c : D} : List.lookup ("rows" : Str) [(("states" : Str), a), ("rows", b), ("ways", c)] = some b := rfl
theorem lkW {a b c : D} : List.lookup ("ways" : Str) [(("states" : Str), a), ("rows", b), ("ways", c)] = some c := rfl
end My
set_option Elab.async false
set_option linter.all false
set_option maxRecDepth 100000
set_option maxHeartbeats 4000000
set_option autoImplicit false
noncomputable section
namespace My
open PySem PySem.Spec L2 DL
open PyProof.Rows hiding St
@[simp] theorem sn_plain_one : ((("plain" : Str) = ("one" : Str)) = False) := eq_false (by decide)
@[simp] theorem sn_plain_all : ((("plain" : Str) = ("all" : Str)) = False) := eq_false (by decide)
@[simp] theorem sn_plain_keep : ((("plain" : Str) = ("keep" : Str)) = False) := eq_false (by decide)
@[simp] theorem sn_one_plain : ((("one" : Str) = ("plain" : Str)) = False) := eq_false (by decide)
@[simp] theorem sn_one_all : ((("one" : Str) = ("all" : Str)) = False) := eq_false (by decide)
@[simp] theorem sn_one_keep : ((("one" : Str) = ("keep" : Str)) = False) := eq_false (by decide)
@[simp] theorem sn_all_plain : ((("all" : Str) = ("plain" : Str)) = False) := eq_false (by decide)
@[simp] theorem sn_all_one : ((("all" : Str) = ("one" : Str)) = False) := eq_false (by decide)
@[simp] theorem sn_all_keep : ((("all" : Str) = ("keep" : Str)) = False) := eq_false (by decide)
@[simp] theorem sn_keep_plain : ((("keep" : Str) = ("plain" : Str)) = False) := eq_false (by decide)
@[simp] theorem sn_keep_one : ((("keep" : Str) = ("one" : Str)) = False) := eq_false (by decide)
@[simp] theorem sn_keep_all : ((("keep" : Str) = ("all" : Str)) = False) := eq_false (by decide)
/-! ### rooms -/
abbrev Rm := Int × Str
def eR (r : Rm) : D := .tup [.int r.1, .str r.2]
def eRs (R : List Rm) : D := .lst (R.map eR)
def hol (R : List Rm) (k : Nat) : Int := (R[k]?.map (·.1)).getD (-1)
def knd (R : List Rm) (k : Nat) : Str := (R[k]?.map (·.2)).getD "plain"
structure WF (R : List Rm) : Prop where
  n1 : 1 ≤ R.length
  n2 : R.length ≤ 16
  h0 : hol R 0 = -1
  hk : ∀ k : Nat, 0 < k → k < R.length → 0 ≤ hol R k ∧ hol R k < k
  kd : ∀ k : Nat, k < R.length → knd R k = "plain" ∨ knd R k = "one" ∨ knd R k = "all" ∨ knd R k = "keep"
  pl : ∀ k : Nat, k < R.length → (knd R k = "plain" ↔ ∀ j : Nat, j < R.length → hol R j ≠ k)
theorem rm_at {R : List Rm} {k : Nat} (h : k < R.length) : R[k]? = some (hol R k, knd R k) := by
  simp [hol, knd, List.getElem?_eq_getElem h]
theorem rm_atI {R : List Rm} {k : Nat} (h : k < R.length) : atI (R.map eR) (k : Int) = some (.tup [.int (hol R k), .str (knd R k)]) := by
  rw [atI_map, DL.atI_nat, rm_at h]; rfl
theorem rm_atT {R : List Rm} {k : Int} (h0 : 0 ≤ k) (h : k < R.length) : atI (R.map eR) k = some (.tup [.int (hol R k.toNat), .str (knd R k.toNat)]) := by
  obtain ⟨n, rfl⟩ := Int.eq_ofNat_of_zero_le h0
  exact rm_atI (by omega)
/-- up from k: k, its holder, .. -/
def chn (R : List Rm) : Nat → Nat → List Nat
  | 0, k => [k]
  | f + 1, k => if 0 ≤ hol R k then k :: chn R f (hol R k).toNat else [k]
def chain (R : List Rm) (k : Nat) : List Nat := chn R k k
theorem chn_fuel {R : List Rm} (W : WF R) : ∀ (f k : Nat), k ≤ f → k < R.length → chn R f k = chn R k k := by
  intro f
  induction f using Nat.strongRecOn with
  | ind f ih =>
    intro k hf hk
    cases f with
    | zero => rw [Nat.le_zero.mp hf]
    | succ f =>
      cases k with
      | zero =>
        simp only [chn, W.h0]
        rfl
      | succ k =>
        obtain ⟨h1, h2⟩ := W.hk (k + 1) (by omega) hk
        simp only [chn, h1, if_true]
        rw [ih f (by omega) (hol R (k + 1)).toNat (by omega) (by omega), ih k (by omega) (hol R (k + 1)).toNat (by omega) (by omega)]
theorem chain_0 {R : List Rm} : chain R 0 = [0] := rfl
theorem chain_s {R : List Rm} (W : WF R) {k : Nat} (h0 : 0 < k) (hk : k < R.length) : chain R k = k :: chain R (hol R k).toNat := by
  obtain ⟨h1, h2⟩ := W.hk k h0 hk
  unfold chain
  cases k with
  | zero => omega
  | succ k =>
    simp only [chn, h1, if_true]
    rw [chn_fuel W k _ (by omega) (by omega)]
theorem chain_le {R : List Rm} (W : WF R) : ∀ {k : Nat}, k < R.length → ∀ {j : Nat}, j ∈ chain R k → j ≤ k := by
  intro k
  induction k using Nat.strongRecOn with
  | ind k ih =>
    intro hk j hj
    by_cases h0 : 0 < k
    · obtain ⟨h1, h2⟩ := W.hk k h0 hk
      rw [chain_s W h0 hk] at hj
      rcases List.mem_cons.mp hj with rfl | hj
      · exact Nat.le_refl _
      · have := ih _ (by omega) (by omega) hj
        omega
    · have : k = 0 := by omega
      subst this
      rw [chain_0] at hj
      simp at hj
      omega
theorem chain_self {R : List Rm} (W : WF R) {k : Nat} (hk : k < R.length) : k ∈ chain R k := by
  by_cases h0 : 0 < k
  · rw [chain_s W h0 hk]; exact List.mem_cons_self ..
  · have : k = 0 := by omega
    subst this
    rw [chain_0]; exact List.mem_cons_self ..
theorem chain_head {R : List Rm} (W : WF R) {k : Nat} (hk : k < R.length) : chain R k = k :: (chain R k).tail := by
  by_cases h0 : 0 < k
  · rw [chain_s W h0 hk]; rfl
  · have : k = 0 := by omega
    subst this
    rfl
theorem chain_lt {R : List Rm} (W : WF R) {k : Nat} (hk : k < R.length) {j : Nat} (hj : j ∈ (chain R k).tail) : j < k := by
  by_cases h0 : 0 < k
  · obtain ⟨h1, h2⟩ := W.hk k h0 hk
    rw [chain_s W h0 hk] at hj
    have := chain_le W (by omega) (show j ∈ chain R (hol R k).toNat from hj)
    omega
  · have : k = 0 := by omega
    subst this
    simp [chain_0] at hj
theorem chain_tail {R : List Rm} (W : WF R) {k : Nat} (hk : k < R.length) {j : Nat} : j ∈ (chain R k).tail ↔ j ∈ chain R k ∧ j ≠ k := by
  constructor
  · intro h
    have := chain_lt W hk h
    exact ⟨List.mem_of_mem_tail h, by omega⟩
  · rintro ⟨h, hne⟩
    rw [chain_head W hk] at h
    rcases List.mem_cons.mp h with h | h
    · exact absurd h hne
    · exact h
theorem chain_sorted {R : List Rm} (W : WF R) : ∀ {k : Nat}, k < R.length → (chain R k).Pairwise (· > ·) := by
  intro k
  induction k using Nat.strongRecOn with
  | ind k ih =>
    intro hk
    by_cases h0 : 0 < k
    · obtain ⟨h1, h2⟩ := W.hk k h0 hk
      have hs := chain_s W h0 hk
      rw [hs]
      refine List.pairwise_cons.mpr ⟨fun j hj => ?_, ih _ (by omega) (by omega)⟩
      have := chain_le W (by omega) hj
      omega
    · have : k = 0 := by omega
      subst this
      rw [chain_0]
      exact List.pairwise_singleton ..
theorem chain_length {R : List Rm} (W : WF R) : ∀ {k : Nat}, k < R.length → (chain R k).length ≤ k + 1 := by
  intro k
  induction k using Nat.strongRecOn with
  | ind k ih =>
    intro hk
    by_cases h0 : 0 < k
    · obtain ⟨h1, h2⟩ := W.hk k h0 hk
      rw [chain_s W h0 hk]
      have := ih _ (show (hol R k).toNat < k by omega) (by omega)
      simp
      omega
    · have : k = 0 := by omega
      subst this
      simp [chain_0]
/-- a chart as it is held -/
def eC (R : List Rm) (A : List D) : D := .ins "Chart" [("rooms", eRs R), ("arrows", .lst A)]
theorem lkR {a b : D} : List.lookup ("rooms" : Str) [(("rooms" : Str), a), ("arrows", b)] = some a := rfl
theorem lkA {a b : D} : List.lookup ("arrows" : Str) [(("rooms" : Str), a), ("arrows", b)] = some b := rfl
theorem within_eq {R : List Rm} (W : WF R) {A : List D} {a b : Nat} (ha : a < R.length) (hb : b < R.length) : F_within [eC R A, .int a, .int b] = .ok (.sh (.bl (decide (b ∈ chain R a)))) := by
  obtain ⟨e', q, r, hr, hle, hmem, rfl⟩ := whileQ (t := asB (op2 gtD (v 1) (v 2))) (body := L_within_1) (e := [.sh (eC R A), .sh (.int a), .sh (.int b)])
    (I := fun m e => ∃ r : Nat, m = r ∧ r < R.length ∧ (b ∈ chain R a ↔ b ∈ chain R r) ∧ e = [.sh (eC R A), .sh (.int r), .sh (.int b)])
    (P := fun e => ∃ r : Nat, r < R.length ∧ r ≤ b ∧ (b ∈ chain R a ↔ b ∈ chain R r) ∧ e = [.sh (eC R A), .sh (.int r), .sh (.int b)])
    (m := a)
    (by
      rintro m e ⟨r, rfl, hr, hm, rfl⟩
      by_cases h : m ≤ b
      · exact .inl ⟨_, by simp [show ¬ (b : Int) < m by omega], m, hr, h, hm, rfl⟩
      · obtain ⟨h1, h2⟩ := W.hk m (by omega) hr
        refine .inr ⟨[.sh (eC R A), .sh (.int m), .sh (.int b)], by simp [show (b : Int) < m by omega], fun Q hQ => ?_⟩
        simp [L_within_1, eC, eRs, lkR, rm_atI hr]
        refine hQ (hol R m).toNat _ (by omega) ⟨_, rfl, by omega, ?_, by simp [eC, eRs, Int.toNat_of_nonneg h1]⟩
        rw [hm, chain_s W (by omega) hr, List.mem_cons]
        constructor
        · rintro (rfl | h)
          · omega
          · exact h
        · exact .inr)
    ⟨a, rfl, ha, Iff.rfl, rfl⟩ (by have := W.n2; omega)
  have : (b ∈ chain R a) ↔ (r : Int) = b := by
    rw [hmem]
    constructor
    · intro h
      have := chain_le W hr h
      omega
    · intro h
      have : r = b := by omega
      subst this
      exact chain_self W hr
  simp [F_within, B_within, q, this]
end My
set_option Elab.async false
set_option linter.all false
set_option maxRecDepth 100000
set_option maxHeartbeats 4000000
set_option autoImplicit false
noncomputable section
namespace My
open PySem PySem.Spec L2 DL
open PyProof.Rows hiding St
/-! ### a chart is made -/
theorem pl_plain : PyData.strOk ("plain" : Str) = true := by decide +kernel
theorem pl_kind {R : List Rm} (W : WF R) {k : Nat} (hk : k < R.length) : PyData.strOk (knd R k) = true := by
  rcases W.kd k hk with h | h | h | h <;> rw [h] <;> decide +kernel
theorem ok_rooms {R : List Rm} (W : WF R) {S : List Rm} (hS : ∀ r ∈ S, r ∈ R) : (eRs S).ok = true := by
  refine ok_of ?_ ?_
  · simp only [eRs, D.pur]
    refine purL_map fun r hr => ?_
    obtain ⟨k, hk, rfl⟩ := List.getElem_of_mem (hS r hr)
    have := rm_at (R := R) hk
    rw [List.getElem?_eq_getElem hk] at this
    have := Option.some.inj this
    rw [this]
    simp only [eR, D.pur, purL, pl_kind W hk, Bool.and_self]
  · simp only [eRs, D.dep]
    have : depL (S.map eR) ≤ 1 := depL_map fun r _ => by simp [eR, D.dep, depL]
    omega
theorem ok_nil : (D.lst []).ok = true := by decide +kernel
theorem rooms_ok {R : List Rm} (W : WF R) : F_look_at_rooms [eRs R] = .ok (.sh .non) := by
  have n1 := W.n1
  have n2 := W.n2
  obtain ⟨e', q, j1, j2, rfl⟩ := for_rngQ (ix := 1) (body := L_look_at_rooms_1) (lo := 0) (n := R.length) (e := [.sh (eRs R), .un, .un, .un])
    (fun i e => ∃ j1 j2, e = [.sh (eRs R), j1, j2, .un])
    (by
      rintro k e hk ⟨j1, j2, rfl⟩ Q hQ
      have hc : ∀ e : List DL.Slot, e[3]? = some .un → e[1]? = some (.sh (.int k)) → compL 3 (asB (op2 eqD (op2 idxD (v 3) (kc (.int 0))) (v 1))) (v 3) (R.map eR) [] e = .ok ((R.filter fun r => decide (r.1 = (k : Int))).map eR) e := by
        intro e h3 h1
        obtain ⟨hl, _⟩ := List.getElem?_eq_some_iff.mp h3
        have := comp_map (ix := 3) (t := asB (op2 eqD (op2 idxD (v 3) (kc (.int 0))) (v 1))) (f := v 3) (e := e) (g := eR) (g' := eR) (p := fun r => decide (r.1 = (k : Int))) (w := id) (xs := R) (by omega)
          (fun x _ => by simp [hl, eR, h1]) (fun x _ _ => ⟨.sh (eR x), by simp [hl], rfl⟩) h3
        simpa using this
      have k1 := W.kd k hk
      have k2 : 0 < k → 0 ≤ hol R k ∧ hol R k < k := fun h => W.hk k h hk
      have k3 := W.pl k hk
      have o1 : eqD (.lst ((R.filter fun r => decide (r.1 = (k : Int))).map eR)) (.lst []) = some (.sh (.bl (decide (knd R k = "plain")))) := by
        show eqD (eRs _) _ = _
        rw [o_eqD (ok_rooms W (S := R.filter fun r => decide (r.1 = (k : Int))) fun r hr => (List.mem_filter.mp hr).1) ok_nil]
        congr 4
        rw [k3]
        apply propext
        simp only [eRs, D.lst.injEq, List.map_eq_nil_iff, List.filter_eq_nil_iff, decide_eq_true_eq]
        constructor
        · intro h j hj e
          have := List.mem_of_getElem? (rm_at hj)
          exact h _ this e
        · intro h r hr e
          obtain ⟨j, hj, rfl⟩ := List.getElem_of_mem hr
          refine h j hj ?_
          have := rm_at (R := R) hj
          rw [List.getElem?_eq_getElem hj] at this
          rw [← e, Option.some.inj this]
      by_cases hp : 0 < k
      · obtain ⟨a1, a2⟩ := k2 hp
        simp [L_look_at_rooms_1, eRs, rm_atI hk, k1, hp, a1, a2, hc, o1]
        exact hQ _ ⟨_, _, rfl⟩
      · simp [L_look_at_rooms_1, eRs, rm_atI hk, k1, hp, hc, o1]
        exact hQ _ ⟨_, _, rfl⟩)
    ⟨_, _, rfl⟩
  have h0 := rm_atI (R := R) (k := 0) (by omega)
  rw [W.h0] at h0
  have h0 : atI (R.map eR) 0 = _ := h0
  simp [F_look_at_rooms, B_look_at_rooms, eRs, h0, show (1 : Int) ≤ (R.length : Int) by omega, show (R.length : Int) ≤ 16 by omega, near_nat (show R.length < 1000000 by omega)]
  simp only [eRs] at q
  simp [q]
theorem arrows_nil {R : List Rm} : F_look_at_arrows [eC R []] = .ok (.sh .non) := by
  simp [F_look_at_arrows, B_look_at_arrows, eC, eRs, lkR, lkA, forL]
theorem chart_ok {R : List Rm} (W : WF R) {A : List D} (hA : F_look_at_arrows [eC R A] = .ok (.sh .non)) : F_Chart__init [eRs R, .lst A] = .ok (.sh (eC R A)) := by
  have h1 := rooms_ok W
  simp only [eC, eRs] at hA h1
  have l1 : ∀ a : D, List.lookup ("rooms" : Str) (putD "arrows" (.lst A) (putD "rooms" a [])) = some a := fun _ => rfl
  have l2 : ∀ a b : D, putD "arrows" b (putD "rooms" a []) = [(("rooms" : Str), a), ("arrows", b)] := fun _ _ => rfl
  have l3 : ∀ a : D, (putD "rooms" a []).length < 90 := fun _ => by simp [putD]
  simp [F_Chart__init, B_Chart__init, eC, eRs, l1, l2, l3, h1, hA, lkR]
/-! ### the scope -/
def ok2 (s : Str) : Bool := decide (s = "one" ∨ s = "keep")
def inScope (R : List Rm) (s t k : Nat) : Bool := ok2 (knd R k) && (decide (k ≠ s) && (decide (k ≠ t) && (decide (k ∈ chain R s) && decide (k ∈ chain R t))))
def lastOf (p : Nat → Bool) : Nat → Option Nat
  | 0 => none
  | n + 1 => if p n = true then some n else lastOf p n
def scp (R : List Rm) (s t : Nat) : Option Nat := lastOf (inScope R s t) R.length
def eO : Option Nat → D
  | none => .non
  | some k => .int k
theorem scope_eq {R : List Rm} (W : WF R) {A : List D} {s t : Nat} (hs : s < R.length) (ht : t < R.length) : F_scope [eC R A, .int s, .int t] = .ok (.sh (eO (scp R s t))) := by
  have n2 := W.n2
  obtain ⟨e', q, j4, rfl⟩ := for_rngQ (ix := 4) (body := L_scope_1) (lo := 0) (n := R.length) (e := [.sh (eC R A), .sh (.int s), .sh (.int t), .sh .non, .un])
    (fun i e => ∃ j4, e = [.sh (eC R A), .sh (.int s), .sh (.int t), .sh (eO (lastOf (inScope R s t) i)), j4])
    (by
      rintro k e hk ⟨j4, rfl⟩ Q hQ
      have w1 := within_eq W (A := A) hs hk
      have w2 := within_eq W (A := A) ht hk
      simp only [eC, eRs] at w1 w2
      have e1 : ((k : Int) = s) ↔ k = s := by omega
      have e2 : ((k : Int) = t) ↔ k = t := by omega
      by_cases c1 : knd R k = "one" ∨ knd R k = "keep"
      · by_cases c2 : k = s
        · subst c2
          simp [L_scope_1, eC, eRs, lkR, rm_atI hk, c1]
          refine hQ _ ?_
          exact ⟨_, by simp [lastOf, inScope, ok2, eC, eRs]; rfl⟩
        · by_cases c3 : k = t
          · subst c3
            simp [L_scope_1, eC, eRs, lkR, rm_atI hk, c1, c2, e1, e2]
            refine hQ _ ?_
            exact ⟨_, by simp [lastOf, inScope, ok2, eC, eRs]; rfl⟩
          · by_cases c4 : k ∈ chain R s
            · by_cases c5 : k ∈ chain R t
              · simp [L_scope_1, eC, eRs, lkR, rm_atI hk, c1, c2, c3, e1, e2, w1, w2, c4, c5]
                refine hQ _ ?_
                exact ⟨_, by simp [lastOf, inScope, ok2, c1, c2, c3, c4, c5, eC, eRs, eO]; rfl⟩
              · simp [L_scope_1, eC, eRs, lkR, rm_atI hk, c1, c2, c3, e1, e2, w1, w2, c4, c5]
                refine hQ _ ?_
                exact ⟨_, by simp [lastOf, inScope, ok2, c1, c2, c3, c4, c5, eC, eRs, eO]; rfl⟩
            · simp [L_scope_1, eC, eRs, lkR, rm_atI hk, c1, c2, c3, e1, e2, w1, w2, c4]
              refine hQ _ ?_
              exact ⟨_, by simp [lastOf, inScope, ok2, c1, c2, c3, c4, eC, eRs, eO]; rfl⟩
      · simp [L_scope_1, eC, eRs, lkR, rm_atI hk, c1]
        refine hQ _ ?_
        exact ⟨_, by simp [lastOf, inScope, ok2, c1, eC, eRs]; rfl⟩)
    ⟨_, rfl⟩
  simp only [eC, eRs] at q
  simp [F_scope, B_scope, eC, eRs, lkR, q, near_nat (show R.length < 1000000 by omega), scp]
end My
set_option Elab.async false
set_option linter.all false
set_option maxRecDepth 100000
set_option maxHeartbeats 4000000
set_option autoImplicit false
noncomputable section
namespace My
open PySem PySem.Spec L2 DL
open PyProof.Rows hiding St
/-! ### the law's own chain and scope -/
theorem lchain_eq {R : List Rm} (W : WF R) {a : Nat} (ha : a < R.length) : F__law_chain [eRs R, .int a] = .ok (.fr ((chain R a).map nI)) := by
  have n2 := W.n2
  obtain ⟨e', q, r, rfl⟩ := whileQ (t := asB (op2 geD (op2 idxD (op2 idxD (v 0) (v 1)) (kc (.int 0))) (kc (.int 0)))) (body := L__law_chain_1) (e := [.sh (eRs R), .sh (.int a), .ow [.int a]])
    (I := fun m e => ∃ acc : List Nat, m < R.length ∧ acc ++ (chain R m).tail = chain R a ∧ e = [.sh (eRs R), .sh (.int m), .ow (acc.map nI)])
    (P := fun e => ∃ r : Nat, e = [.sh (eRs R), .sh (.int r), .ow ((chain R a).map nI)])
    (m := a)
    (by
      rintro m e ⟨acc, hm, hacc, rfl⟩
      by_cases h0 : 0 < m
      · obtain ⟨h1, h2⟩ := W.hk m h0 hm
        have hlen : acc.length < 100000 := by
          have := congrArg List.length hacc
          have := chain_length W ha
          simp at *
          omega
        refine .inr ⟨[.sh (eRs R), .sh (.int m), .ow (acc.map nI)], by simp [eRs, rm_atI hm, h1], fun Q hQ => ?_⟩
        simp [L__law_chain_1, eRs, rm_atI hm, hlen]
        refine hQ (hol R m).toNat _ (by omega) ⟨acc ++ [(hol R m).toNat], by omega, ?_, by simp [eRs, nI, Int.toNat_of_nonneg h1]⟩
        rw [← hacc, chain_s W h0 hm, List.tail_cons, List.append_assoc, chain_head W (show (hol R m).toNat < R.length by omega)]
        simp
      · have : m = 0 := by omega
        subst this
        have r0 : atI (R.map eR) 0 = some (.tup [.int (-1), .str (knd R 0)]) := by
          have := rm_atI hm
          rw [W.h0] at this
          exact this
        rw [chain_0] at hacc
        simp at hacc
        subst hacc
        exact .inl ⟨[.sh (eRs R), .sh (.int 0), .ow ((chain R a).map nI)], by simp [eRs, r0], 0, rfl⟩)
    ⟨[a], ha, by rw [← List.singleton_append.symm, ← chain_head W ha], rfl⟩ (by omega)
  simp [F__law_chain, B__law_chain, q]
theorem slc1 {xs : List D} : slcD (some 1) none (.lst xs) = some (.fr xs.tail) := by
  show some (RV.fr _) = _
  congr 2
  cases xs with
  | nil => rfl
  | cons x xs => simp [HT.sIx]
theorem lastOf_some {p : Nat → Bool} : ∀ {n k : Nat}, k < n → p k = true → (∀ j, k < j → j < n → p j = false) → lastOf p n = some k
  | 0, _, h, _, _ => by omega
  | n + 1, k, h, hp, hn => by
    unfold lastOf
    by_cases e : k = n
    · subst e; rw [if_pos hp]
    · rw [if_neg (by rw [hn n (by omega) (by omega)]; simp), lastOf_some (by omega) hp fun j h1 h2 => hn j h1 (by omega)]
theorem lastOf_none {p : Nat → Bool} : ∀ {n : Nat}, (∀ j, j < n → p j = false) → lastOf p n = none
  | 0, _ => rfl
  | n + 1, h => by
    unfold lastOf
    rw [if_neg (by rw [h n (by omega)]; simp), lastOf_none fun j hj => h j (by omega)]
def pScope (R : List Rm) (t k : Nat) : Bool := decide (k ∈ (chain R t).tail) && ok2 (knd R k)
theorem scp_find {R : List Rm} (W : WF R) {s t : Nat} (hs : s < R.length) (ht : t < R.length) : (chain R s).tail.find? (pScope R t) = scp R s t := by
  have eqv : ∀ k, inScope R s t k = true ↔ k ∈ (chain R s).tail ∧ pScope R t k = true := by
    intro k
    simp only [inScope, pScope, Bool.and_eq_true, decide_eq_true_eq, chain_tail W hs, chain_tail W ht]
    constructor
    · rintro ⟨a, b, c, d, e⟩; exact ⟨⟨d, b⟩, ⟨e, c⟩, a⟩
    · rintro ⟨⟨d, b⟩, ⟨e, c⟩, a⟩; exact ⟨a, b, c, d, e⟩
  have neg : ∀ k, (k ∈ (chain R s).tail → pScope R t k = true → False) → inScope R s t k = false := by
    intro k h
    cases hq : inScope R s t k with
    | false => rfl
    | true => exact (h ((eqv k).mp hq).1 ((eqv k).mp hq).2).elim
  unfold scp
  cases hf : (chain R s).tail.find? (pScope R t) with
  | none =>
    rw [lastOf_none fun j _ => neg j fun h1 h2 => ?_]
    exact absurd h2 (by simpa using List.find?_eq_none.mp hf j h1)
  | some k =>
    have hk := List.mem_of_find?_eq_some hf
    have hp := List.find?_some hf
    symm
    refine lastOf_some (by have := chain_lt W hs hk; omega) ((eqv k).mpr ⟨hk, hp⟩) fun j hj _ => neg j fun h1 h2 => ?_
    -- the list falls, so j stands ahead of k
    obtain ⟨_, l1, l2, e1, e2⟩ := List.find?_eq_some_iff_append.mp hf
    have srt : ((chain R s).tail).Pairwise (· > ·) := List.Pairwise.sublist (List.tail_sublist _) (chain_sorted W hs)
    rw [e1] at srt h1
    rcases List.mem_append.mp h1 with h | h
    · have := e2 j h
      simp [h2] at this
    · rcases List.mem_cons.mp h with rfl | h
      · omega
      · have := (List.pairwise_cons.mp (List.pairwise_append.mp srt).2.1).1 j h
        omega
theorem lscope_eq {R : List Rm} (W : WF R) {s t : Nat} (hs : s < R.length) (ht : t < R.length) : F__law_scope [eRs R, .int s, .int t] = .ok (.sh (eO (scp R s t))) := by
  have c1 := lchain_eq W hs
  have c2 := lchain_eq W ht
  obtain ⟨T, hT⟩ : ∃ T, T = (chain R t).tail := ⟨_, rfl⟩
  obtain ⟨S, hS⟩ : ∃ S, S = (chain R s).tail := ⟨_, rfl⟩
  have d1 : slcD (some 1) none (.lst ((chain R s).map nI)) = some (.fr (S.map nI)) := by rw [slc1, ← List.map_tail, hS]
  have d2 : slcD (some 1) none (.lst ((chain R t).map nI)) = some (.fr (T.map nI)) := by rw [slc1, ← List.map_tail, hT]
  have key := for_find (ix := 4) (body := L__law_scope_1) (f := nI) (p := pScope R t) (r := fun k => .sh (nI k)) S [.sh (eRs R), .sh (.int s), .sh (.int t), .sh (.lst (T.map nI)), .un]
    (by
      intro k hk
      rw [hS] at hk
      have hk2 : k < R.length := by have := chain_lt W hs hk; omega
      have m1 := in_nI (k := k) (T := T)
      by_cases h1 : k ∈ T
      · by_cases h2 : knd R k = "one" ∨ knd R k = "keep"
        · simp [L__law_scope_1, nI, eRs, rm_atI hk2, m1, h1, h2, pScope, ok2, ← hT]
        · simp [L__law_scope_1, nI, eRs, rm_atI hk2, m1, h1, h2, pScope, ok2, ← hT]
      · simp [L__law_scope_1, nI, m1, h1, pScope, ← hT])
  rw [hS, scp_find W hs ht, ← hS] at key
  simp only [eRs] at c1 c2 key
  rcases key with ⟨x, e1, e2⟩ | ⟨e1, s', e2⟩
  · rw [e1]
    simp [F__law_scope, B__law_scope, eRs, c1, c2, d1, d2, e2, eO, nI]
  · rw [e1]
    simp [F__law_scope, B__law_scope, eRs, c1, c2, d1, d2, e2, eO]
end My
set_option Elab.async false
set_option linter.all false
set_option maxRecDepth 100000
set_option maxHeartbeats 4000000
set_option autoImplicit false
noncomputable section
namespace My
open PySem PySem.Spec L2 DL
open PyProof.Rows hiding St
/-! ### the rooms that a script draws -/
def dH (ns : List Int) (k : Nat) : Int := if k = 0 then -1 else cl ns k % k
def dHs (ns : List Int) (n : Nat) : List Int := (List.range n).map (dH ns)
def kL (i : Int) : Str := if i = 1 then "all" else if i = 2 then "keep" else "one"
def dK (ns : List Int) (n k : Nat) : Str := if (k : Int) ∈ dHs ns n then kL (cl ns k / 16 % 4) else "plain"
def dR (ns : List Int) (n : Nat) : List Rm := (List.range n).map fun k => (dH ns k, dK ns n k)
theorem dR_len {ns : List Int} {n : Nat} : (dR ns n).length = n := by simp [dR]
theorem dR_at {ns : List Int} {n k : Nat} (h : k < n) : (dR ns n)[k]? = some (dH ns k, dK ns n k) := by simp [dR, h]
theorem dR_hol {ns : List Int} {n k : Nat} (h : k < n) : hol (dR ns n) k = dH ns k := by simp [hol, dR_at h]
theorem dR_knd {ns : List Int} {n k : Nat} (h : k < n) : knd (dR ns n) k = dK ns n k := by simp [knd, dR_at h]
theorem kL_4 {i : Int} : kL i = "one" ∨ kL i = "all" ∨ kL i = "keep" := by
  unfold kL
  split
  · exact .inr (.inl rfl)
  · split
    · exact .inr (.inr rfl)
    · exact .inl rfl
theorem dH_lt {ns : List Int} {k : Nat} (h : 0 < k) : 0 ≤ dH ns k ∧ dH ns k < k := by
  unfold dH
  rw [if_neg (by omega)]
  exact ⟨Int.emod_nonneg _ (by omega), Int.emod_lt_of_pos _ (by omega)⟩
theorem dR_wf {ns : List Int} {n : Nat} (h1 : 1 ≤ n) (h2 : n ≤ 16) : WF (dR ns n) where
  n1 := by rw [dR_len]; exact h1
  n2 := by rw [dR_len]; exact h2
  h0 := by rw [dR_hol (by omega)]; rfl
  hk := fun k h hk => by
    rw [dR_len] at hk
    rw [dR_hol hk]
    exact dH_lt h
  kd := fun k hk => by
    rw [dR_len] at hk
    rw [dR_knd hk]
    unfold dK
    split
    · exact .inr kL_4
    · exact .inl rfl
  pl := fun k hk => by
    rw [dR_len] at hk
    rw [dR_knd hk, dR_len]
    have e : (k : Int) ∈ dHs ns n ↔ ∃ j, j < n ∧ hol (dR ns n) j = k := by
      simp only [dHs, List.mem_map, List.mem_range]
      constructor
      · rintro ⟨j, hj, e⟩; exact ⟨j, hj, by rw [dR_hol hj, e]⟩
      · rintro ⟨j, hj, e⟩; exact ⟨j, hj, by rw [← e, dR_hol hj]⟩
    unfold dK
    by_cases hm : (k : Int) ∈ dHs ns n
    · rw [if_pos hm]
      obtain ⟨j, hj, e⟩ := e.mp hm
      constructor
      · intro h
        rcases kL_4 (i := cl ns k / 16 % 4) with q | q | q <;> rw [q] at h <;> exact absurd h (by decide)
      · intro h; exact absurd e (h j hj)
    · rw [if_neg hm]
      refine ⟨fun _ j hj ej => hm (e.mpr ⟨j, hj, ej⟩), fun _ => rfl⟩
theorem kind_at {i : Int} (h0 : 0 ≤ i) (h : i < 4) : atI [D.str "one", D.str "all", D.str "keep", D.str "one"] i = some (.str (kL i)) := by
  have : i = 0 ∨ i = 1 ∨ i = 2 ∨ i = 3 := by omega
  rcases this with rfl | rfl | rfl | rfl <;> rfl
theorem lrooms_eq {ns : List Int} {n : Nat} (h1 : 1 ≤ n) (h2 : n ≤ 16) : F__law_rooms [.scr ns, .int n] = .ok (.fr ((dR ns n).map eR)) := by
  obtain ⟨e1, q1, j3, rfl⟩ := for_rngQ (ix := 3) (body := L__law_rooms_1) (lo := 1) (n := n - 1) (e := [.sh (.scr ns), .sh (.int n), .ow [.int (-1)], .un, .un, .un])
    (fun i e => ∃ j3, e = [.sh (.scr ns), .sh (.int n), .ow ((dHs ns (i + 1)).map .int), j3, .un, .un])
    (by
      rintro i e hi ⟨j3, rfl⟩ Q hQ
      have c : F__law_cell_at [.scr ns, .int (1 + (i : Int))] = .ok (.sh (.int (cl ns (1 + (i : Int))))) := cell_eq (by omega)
      have z : (dHs ns (i + 1)).length < 100000 := by simp [dHs]; omega
      have p : (0 : Int) < 1 + (i : Int) := by omega
      have s : dHs ns (i + 1 + 1) = dHs ns (i + 1) ++ [cl ns (1 + (i : Int)) % (1 + (i : Int))] := by
        unfold dHs
        rw [List.range_succ, List.map_append]
        simp [dH, Int.add_comm]
      simp [L__law_rooms_1, c, z, p]
      exact hQ _ ⟨_, by rw [s, List.map_append]; rfl⟩)
    ⟨_, rfl⟩
  rw [show n - 1 + 1 = n by omega] at q1
  obtain ⟨e2, q2, j3', j5, rfl⟩ := for_rngQ (ix := 3) (body := L__law_rooms_2) (lo := 0) (n := n) (e := [.sh (.scr ns), .sh (.int n), .ow ((dHs ns n).map .int), j3, .ow [], .un])
    (fun i e => ∃ j3 j5, e = [.sh (.scr ns), .sh (.int n), .ow ((dHs ns n).map .int), j3, .ow (((List.range i).map fun k => (dH ns k, dK ns n k)).map eR), j5])
    (by
      rintro i e hi ⟨j3, j5, rfl⟩ Q hQ
      have c : F__law_cell_at [.scr ns, .int (i : Int)] = .ok (.sh (.int (cl ns i))) := cell_eq (by omega)
      have a : atI ((dHs ns n).map D.int) (i : Int) = some (.int (dH ns i)) := by
        rw [atI_map, DL.atI_nat]
        simp [dHs, hi]
      have m := o_inL (i := (i : Int)) (xs := dHs ns n)
      have k4 := kind_at (i := cl ns i / 16 % 4) (by omega) (by omega)
      obtain ⟨R, hR⟩ : ∃ R : List Rm, R = (List.range i).map fun k => (dH ns k, dK ns n k) := ⟨_, rfl⟩
      have z : R.length < 100000 := by rw [hR]; simp; omega
      have s : ((List.range (i + 1)).map fun k => (dH ns k, dK ns n k)) = R ++ [(dH ns i, dK ns n i)] := by
        rw [List.range_succ, List.map_append, hR]
        rfl
      rw [← hR]
      by_cases hm : (i : Int) ∈ dHs ns n
      · have t : ((List.range (i + 1)).map fun k => (dH ns k, dK ns n k)).map eR = R.map eR ++ [.tup [.int (dH ns i), .str (kL (cl ns i / 16 % 4))]] := by
          rw [s, List.map_append]
          simp [eR, dK, hm]
        simp [L__law_rooms_2, c, a, m, k4, z, hm]
        exact hQ _ ⟨_, _, by (rw [t]) <;> rfl⟩
      · have t : ((List.range (i + 1)).map fun k => (dH ns k, dK ns n k)).map eR = R.map eR ++ [.tup [.int (dH ns i), .str "plain"]] := by
          rw [s, List.map_append]
          simp [eR, dK, hm]
        simp [L__law_rooms_2, c, a, m, k4, z, hm]
        exact hQ _ ⟨_, _, by (rw [t]) <;> rfl⟩)
    ⟨_, _, rfl⟩
  have n1 : Near (n : Int) := near_nat (by omega)
  have e : ((n : Int) - 1).toNat = n - 1 := by omega
  simp [F__law_rooms, B__law_rooms, n1, e, q1, q2, dR]
end My
set_option Elab.async false
set_option linter.all false
set_option maxRecDepth 100000
set_option maxHeartbeats 4000000
set_option autoImplicit false
noncomputable section
namespace My
open PySem PySem.Spec L2 DL
open PyProof.Rows hiding St
/-! ### what is entered: the tree of choices -/
def kids (R : List Rm) (k : Nat) : List Nat := (List.range R.length).filter fun j => decide (hol R j = k)
theorem mem_kids {R : List Rm} {k j : Nat} : j ∈ kids R k ↔ j < R.length ∧ hol R j = k := by simp [kids]
theorem kids_pos {R : List Rm} (W : WF R) {k j : Nat} (h : j ∈ kids R k) : 0 < j ∧ k < j := by
  obtain ⟨h1, h2⟩ := mem_kids.mp h
  have : 0 < j := by
    rcases Nat.eq_zero_or_pos j with e | e
    · subst e
      have := W.h0
      omega
    · exact e
  have := W.hk j this h1
  omega
theorem kids_nodup {R : List Rm} {k : Nat} : (kids R k).Nodup := List.Pairwise.filter _ List.nodup_range
theorem kids_ne {R : List Rm} (W : WF R) {k : Nat} (hk : k < R.length) (h : knd R k ≠ "plain") : kids R k ≠ [] := by
  intro e
  refine h ((W.pl k hk).mpr fun j hj ej => ?_)
  have := mem_kids.mpr ⟨hj, ej⟩
  rw [e] at this
  cases this
theorem children_eq {R : List Rm} (W : WF R) {A : List D} {k : Nat} : F_children [eC R A, .int k] = .ok (.fr ((kids R k).map nI)) := by
  have n2 := W.n2
  have c := DL.comp_map (ix := 2) (t := asB (op2 eqD (op2 idxD (op2 idxD (fldE "Chart" "rooms" (v 0)) (v 2)) (kc (.int 0))) (v 1))) (f := v 2) (e := [.sh (eC R A), .sh (.int k), .un]) (g := fun j : Nat => D.int (0 + (j : Nat))) (g' := nI) (p := fun j => decide (hol R j = k)) (w := fun j => j) (xs := List.range R.length) (by simp; omega)
    (fun j hj => by simp [eC, eRs, lkR, rm_atI (List.mem_range.mp hj)]) (fun j hj _ => ⟨.sh (nI j), by simp [nI], rfl⟩) rfl
  rw [← rng_map] at c
  simp only [eC, eRs] at c
  simp [F_children, B_children, eC, eRs, lkR, near_nat (show R.length < 1000000 by omega), c, kids]
/-- c: what is chosen. may j be entered from its holder? -/
def op (R : List Rm) (c : Nat → Nat) (j : Nat) : Bool := decide (knd R (hol R j).toNat = "all") || (ok2 (knd R (hol R j).toNat) && decide (c (hol R j).toNat = j))
def rch (R : List Rm) (c : Nat → Nat) (r : Nat) : Nat → Nat → Bool
  | 0, k => decide (k = r)
  | f + 1, k => decide (k = r) || (decide (0 < k) && (rch R c r f (hol R k).toNat && op R c k))
def reach (R : List Rm) (c : Nat → Nat) (r k : Nat) : Bool := rch R c r k k
theorem rch_fuel {R : List Rm} (W : WF R) {c : Nat → Nat} {r : Nat} : ∀ (f k : Nat), k ≤ f → k < R.length → rch R c r f k = rch R c r k k := by
  intro f
  induction f using Nat.strongRecOn with
  | ind f ih =>
    intro k hf hk
    cases f with
    | zero => rw [Nat.le_zero.mp hf]
    | succ f =>
      cases k with
      | zero => simp [rch]
      | succ k =>
        obtain ⟨h1, h2⟩ := W.hk (k + 1) (by omega) hk
        simp only [rch]
        rw [ih f (by omega) (hol R (k + 1)).toNat (by omega) (by omega), ih k (by omega) (hol R (k + 1)).toNat (by omega) (by omega)]
theorem reach_iff {R : List Rm} (W : WF R) {c : Nat → Nat} {r k : Nat} (hk : k < R.length) : reach R c r k = true ↔ k = r ∨ (0 < k ∧ reach R c r (hol R k).toNat = true ∧ op R c k = true) := by
  unfold reach
  cases k with
  | zero => simp [rch]
  | succ k =>
    obtain ⟨h1, h2⟩ := W.hk (k + 1) (by omega) hk
    simp only [rch]
    rw [rch_fuel W k _ (by omega) (by omega)]
    simp
theorem reach_ge {R : List Rm} (W : WF R) {c : Nat → Nat} {r : Nat} : ∀ {k : Nat}, k < R.length → reach R c r k = true → r ≤ k := by
  intro k
  induction k using Nat.strongRecOn with
  | ind k ih =>
    intro hk h
    rcases (reach_iff W hk).mp h with rfl | ⟨h0, h1, _⟩
    · exact Nat.le_refl _
    · obtain ⟨a, b⟩ := W.hk k h0 hk
      have := ih _ (by omega) (by omega) h1
      omega
def succs (R : List Rm) (c : Nat → Nat) (h : Nat) : List Nat := if knd R h = "all" then kids R h else if ok2 (knd R h) = true then [c h] else []
/-- what is chosen lies in it -/
def Ch (R : List Rm) (c : Nat → Nat) : Prop := ∀ k, k < R.length → ok2 (knd R k) = true → c k ∈ kids R k
theorem ok2_all : ok2 ("all" : Str) = false := by decide
theorem mem_succs {R : List Rm} (W : WF R) {c : Nat → Nat} (C : Ch R c) {h j : Nat} (hh : h < R.length) : j ∈ succs R c h ↔ j ∈ kids R h ∧ op R c j = true := by
  unfold succs
  by_cases ha : knd R h = "all"
  · rw [if_pos ha]
    constructor
    · intro hj
      have e := (mem_kids.mp hj).2
      refine ⟨hj, ?_⟩
      unfold op
      rw [e, Int.toNat_natCast, ha]
      simp
    · exact fun q => q.1
  · rw [if_neg ha]
    by_cases ho : ok2 (knd R h) = true
    · rw [if_pos ho, List.mem_singleton]
      constructor
      · rintro rfl
        have hc := C h hh ho
        have e := (mem_kids.mp hc).2
        refine ⟨hc, ?_⟩
        unfold op
        rw [e, Int.toNat_natCast]
        simp [ho]
      · rintro ⟨h1, h2⟩
        have e := (mem_kids.mp h1).2
        unfold op at h2
        rw [e, Int.toNat_natCast] at h2
        simp [ha, ho] at h2
        exact h2.symm
    · rw [if_neg ho]
      constructor
      · intro h; cases h
      · rintro ⟨h1, h2⟩
        have e := (mem_kids.mp h1).2
        unfold op at h2
        rw [e, Int.toNat_natCast] at h2
        simp [ha, ho] at h2
theorem succs_nodup {R : List Rm} {c : Nat → Nat} {h : Nat} : (succs R c h).Nodup := by
  unfold succs
  split
  · exact kids_nodup
  · split
    · simp
    · exact List.nodup_nil
/-- the run over the tree -/
structure EI (R : List Rm) (c : Nat → Nat) (r : Nat) (kept ahead : List Nat) : Prop where
  nd : (kept ++ ahead).Nodup
  ok : ∀ k ∈ kept ++ ahead, k < R.length ∧ reach R c r k = true
  rt : r ∈ kept ++ ahead
  cl : ∀ k ∈ kept, ∀ j ∈ succs R c k, j ∈ kept ++ ahead
  ho : ∀ j ∈ kept ++ ahead, j ≠ r → (hol R j).toNat ∈ kept
theorem EI.start {R : List Rm} {c : Nat → Nat} {r : Nat} (W : WF R) (hr : r < R.length) : EI R c r [] [r] :=
  ⟨by simp, by simp; exact ⟨hr, (reach_iff W hr).mpr (.inl rfl)⟩, by simp, by simp, by simp⟩
theorem EI.step {R : List Rm} {c : Nat → Nat} {r : Nat} (W : WF R) (C : Ch R c) {kept l : List Nat} {h : Nat} (I : EI R c r kept (l ++ [h])) : EI R c r (kept ++ [h]) (l ++ succs R c h) := by
  have hin : h ∈ kept ++ (l ++ [h]) := by simp
  obtain ⟨hh, hrc⟩ := I.ok h hin
  have hnk : h ∉ kept := fun hk => (List.nodup_append.mp I.nd).2.2 h hk h (by simp) rfl
  have new : ∀ j ∈ succs R c h, j ∉ kept ++ (l ++ [h]) := fun j hj hold => by
    have q := (mem_succs W C hh).mp hj
    have e := (mem_kids.mp q.1).2
    have := kids_pos W q.1
    have ge := reach_ge W hh hrc
    have := I.ho j hold (by omega)
    rw [e, Int.toNat_natCast] at this
    exact hnk this
  have mem : ∀ k, k ∈ (kept ++ [h]) ++ (l ++ succs R c h) ↔ k ∈ kept ++ (l ++ [h]) ∨ k ∈ succs R c h := by
    intro k
    simp only [List.mem_append, List.mem_singleton]
    constructor
    · rintro ((a | a) | (a | a)) <;> simp [a]
    · rintro ((a | (a | a)) | a) <;> simp [a]
  refine ⟨?_, ?_, ?_, ?_, ?_⟩
  · have p : ((kept ++ [h]) ++ (l ++ succs R c h)).Perm ((kept ++ (l ++ [h])) ++ succs R c h) := by
      have : ((kept ++ [h]) ++ (l ++ succs R c h)) = kept ++ (([h] ++ l) ++ succs R c h) := by simp
      rw [this]
      have : (kept ++ (l ++ [h])) ++ succs R c h = kept ++ ((l ++ [h]) ++ succs R c h) := by simp
      rw [this]
      exact List.Perm.append_left _ (List.Perm.append_right _ List.perm_append_comm)
    rw [p.nodup_iff]
    exact List.nodup_append.mpr ⟨I.nd, succs_nodup, fun a ha b hb e => new b hb (e ▸ ha)⟩
  · intro k hk
    rcases (mem k).mp hk with hk | hk
    · exact I.ok k hk
    · have q := (mem_succs W C hh).mp hk
      have e := (mem_kids.mp q.1)
      refine ⟨e.1, (reach_iff W e.1).mpr (.inr ⟨(kids_pos W q.1).1, ?_, q.2⟩)⟩
      rw [e.2, Int.toNat_natCast]
      exact hrc
  · exact (mem r).mpr (.inl I.rt)
  · intro k hk j hj
    rcases List.mem_append.mp hk with hk | hk
    · exact (mem j).mpr (.inl (I.cl k hk j hj))
    · rw [List.mem_singleton] at hk
      subst hk
      exact (mem j).mpr (.inr hj)
  · intro j hj hne
    rcases (mem j).mp hj with hj | hj
    · exact List.mem_append_left _ (I.ho j hj hne)
    · have q := (mem_succs W C hh).mp hj
      rw [(mem_kids.mp q.1).2, Int.toNat_natCast]
      simp
theorem EI.all {R : List Rm} {c : Nat → Nat} {r : Nat} (W : WF R) (C : Ch R c) {kept : List Nat} (I : EI R c r kept []) : kept.Nodup ∧ ∀ k, k ∈ kept ↔ k < R.length ∧ reach R c r k = true := by
  have e : kept ++ [] = kept := List.append_nil _
  have nd := I.nd
  have ok := I.ok
  have rt := I.rt
  have cl := I.cl
  rw [e] at nd ok rt
  refine ⟨nd, fun k => ⟨ok k, ?_⟩⟩
  induction k using Nat.strongRecOn with
  | ind k ih =>
    rintro ⟨hk, hr⟩
    rcases (reach_iff W hk).mp hr with rfl | ⟨h0, h1, h2⟩
    · exact rt
    · obtain ⟨a, b⟩ := W.hk k h0 hk
      have hl : (hol R k).toNat < R.length := by omega
      have hm := ih _ (by omega) ⟨hl, h1⟩
      have := cl _ hm k ((mem_succs W C hl).mpr ⟨mem_kids.mpr ⟨hk, by omega⟩, h2⟩)
      rwa [e] at this
theorem EI.len {R : List Rm} {c : Nat → Nat} {r : Nat} {kept ahead : List Nat} (I : EI R c r kept ahead) : kept.length + ahead.length ≤ R.length := by
  have := List.Nodup.length_le_of_subset (l₂ := List.range R.length) I.nd fun k hk => List.mem_range.mpr (I.ok k hk).1
  simpa using this
end My
set_option Elab.async false
set_option linter.all false
set_option maxRecDepth 100000
set_option maxHeartbeats 4000000
set_option autoImplicit false
noncomputable section
namespace My
open PySem PySem.Spec L2 DL
open PyProof.Rows hiding St
/-! ### chosen, entered -/
/-- what chosen chooses: mz: the memory -/
def chz (R : List Rm) (mz : Nat → Nat) (goal k : Nat) : Nat := match (kids R k).find? fun j => decide (j ∈ chain R goal) with
  | some j => j
  | none => if knd R k = "keep" then mz k else (kids R k).headD 0
/-- a datum that holds the memory -/
structure Mem (R : List Rm) (M : D) (mz : Nat → Nat) : Prop where
  at_ : ∀ k, k < R.length → knd R k = "keep" → idxD M (.int k) = some (.sh (.int (mz k)))
  ok : ∀ k, k < R.length → knd R k = "keep" → mz k ∈ kids R k
theorem ok2_ne {s : Str} (h : ok2 s = true) : s ≠ "plain" := by
  rintro rfl
  exact absurd h (by decide)
theorem chz_ch {R : List Rm} (W : WF R) {M : D} {mz : Nat → Nat} (hM : Mem R M mz) (goal : Nat) : Ch R (chz R mz goal) := by
  intro k hk ho
  unfold chz
  cases hf : (kids R k).find? fun j => decide (j ∈ chain R goal) with
  | some j => exact List.mem_of_find?_eq_some hf
  | none =>
    by_cases h : knd R k = "keep"
    · simp only [h, if_true]
      exact hM.ok k hk h
    · simp only [h, if_false]
      have := kids_ne W hk (ok2_ne ho)
      cases hq : kids R k with
      | nil => exact absurd hq this
      | cons x xs => simp
theorem chosen_eq {R : List Rm} (W : WF R) {A : List D} {M : D} {mz : Nat → Nat} (hM : Mem R M mz) {k goal : Nat} (hk : k < R.length) (hg : goal < R.length) (ho : ok2 (knd R k) = true) :
    F_chosen [eC R A, M, .int k, .int goal] = .ok (.sh (.int (chz R mz goal k))) := by
  have c1 := children_eq W (A := A) (k := k)
  have hne := kids_ne W hk (ok2_ne ho)
  obtain ⟨K, hK⟩ : ∃ K, K = kids R k := ⟨_, rfl⟩
  rw [← hK] at c1 hne
  have key := for_find (ix := 5) (body := L_chosen_1) (f := nI) (p := fun j => decide (j ∈ chain R goal)) (r := fun j => .sh (nI j)) K [.sh (eC R A), .sh M, .sh (.int k), .sh (.int goal), .sh (.lst (K.map nI)), .un]
    (by
      intro j hj
      rw [hK] at hj
      have w := within_eq W (A := A) hg (mem_kids.mp hj).1
      by_cases h : j ∈ chain R goal
      · simp [L_chosen_1, nI, w, h]
      · simp [L_chosen_1, nI, w, h])
  rcases key with ⟨x, e1, e2⟩ | ⟨e1, s', e2⟩
  · have : chz R mz goal k = x := by unfold chz; rw [← hK, e1]
    simp [F_chosen, B_chosen, c1, e2, this, nI]
  · have hc : chz R mz goal k = if knd R k = "keep" then mz k else K.headD 0 := by unfold chz; rw [← hK, e1]
    have r1 := rm_atI hk
    by_cases h : knd R k = "keep"
    · have m1 := hM.at_ k hk h
      simp only [eC, eRs] at c1 e2
      simp [F_chosen, B_chosen, eC, eRs, lkR, c1, e2, r1, h, m1, hc]
    · simp only [eC, eRs] at c1 e2
      cases K with
      | nil => exact absurd rfl hne
      | cons x xs =>
        simp only [List.map_cons, nI] at c1 e2
        simp [F_chosen, B_chosen, eC, eRs, lkR, c1, e2, r1, h, hc]
theorem entered_eq {R : List Rm} (W : WF R) {A : List D} {M : D} {mz : Nat → Nat} (hM : Mem R M mz) {r goal : Nat} (hr : r < R.length) (hg : goal < R.length) :
    ∃ K : List Nat, F_entered [eC R A, M, .int r, .int goal] = .ok (.fr (K.map nI)) ∧ K.Nodup ∧ ∀ k, k ∈ K ↔ k < R.length ∧ reach R (chz R mz goal) r k = true := by
  have n2 := W.n2
  have C := chz_ch W hM goal
  obtain ⟨e', q, kept, j6, I, rfl⟩ := whileQ (t := asB (op2 neD (v 5) (lstE []))) (body := L_entered_1) (e := [.sh (eC R A), .sh M, .sh (.int r), .sh (.int goal), .ow [], .ow [.int r], .un])
    (I := fun m e => ∃ kept ahead j6, m = R.length - kept.length ∧ EI R (chz R mz goal) r kept ahead ∧ e = [.sh (eC R A), .sh M, .sh (.int r), .sh (.int goal), .ow (kept.map nI), .ow (ahead.map nI), j6])
    (P := fun e => ∃ kept j6, EI R (chz R mz goal) r kept [] ∧ e = [.sh (eC R A), .sh M, .sh (.int r), .sh (.int goal), .ow (kept.map nI), .ow [], j6])
    (m := R.length)
    (by
      rintro m e ⟨kept, ahead, j6, hm, I, rfl⟩
      rcases List.eq_nil_or_concat ahead with rfl | ⟨l, h, rfl⟩
      · exact .inl ⟨_, by simp [o_neD ok_nil ok_nil], kept, j6, I, rfl⟩
      · rw [List.concat_eq_append] at I ⊢
        have hlen := I.len
        simp only [List.length_append, List.length_singleton] at hlen
        have hh := (I.ok h (by simp)).1
        have I2 := I.step W C
        have hlen2 := I2.len
        simp only [List.length_append, List.length_singleton] at hlen2
        have ne : neD (.lst ((l ++ [h]).map nI)) (.lst []) = some (.sh (.bl true)) := by
          rw [o_neD ok_nI ok_nil]
          simp
        refine .inr ⟨[.sh (eC R A), .sh M, .sh (.int r), .sh (.int goal), .ow (kept.map nI), .ow ((l ++ [h]).map nI), j6], ?_, fun Q hQ => ?_⟩
        · simp only [List.map_append, List.map_cons, List.map_nil] at ne ⊢
          simp [ne]
        · have c1 := children_eq W (A := A) (k := h)
          have r1 := rm_atI hh
          have fin : ∀ j6, Q [.sh (eC R A), .sh M, .sh (.int r), .sh (.int goal), .ow ((kept ++ [h]).map nI), .ow ((l ++ succs R (chz R mz goal) h).map nI), j6] := fun j6 => by
            refine hQ (R.length - (kept.length + 1)) _ (by omega) ⟨_, _, _, ?_, I2, rfl⟩
            simp
          have z1 : kept.length < 100000 := by omega
          have ss : succs R (chz R mz goal) h = if knd R h = "all" then kids R h else if ok2 (knd R h) = true then [chz R mz goal h] else [] := rfl
          obtain ⟨S, hS⟩ : ∃ S, S = succs R (chz R mz goal) h := ⟨_, rfl⟩
          rw [← hS] at ss fin hlen2
          simp only [List.map_append, List.map_cons, List.map_nil, eC, eRs, nI] at fin
          by_cases ha : knd R h = "all"
          · rw [if_pos ha] at ss
            rw [← ss] at c1
            have z2 : l.length + S.length ≤ 100000 := by omega
            simp only [eC, eRs] at c1
            simp [L_entered_1, eC, eRs, lkR, nI, c1, r1, ha, z1, z2]
            exact fin _
          · rw [if_neg ha] at ss
            by_cases ho : ok2 (knd R h) = true
            · rw [if_pos ho] at ss
              have c2 := chosen_eq W (A := A) hM hh hg ho
              have ho' : knd R h = "one" ∨ knd R h = "keep" := by simpa [ok2] using ho
              have z2 : l.length < 100000 := by omega
              rw [ss] at fin
              simp only [List.map_cons, List.map_nil, nI] at fin
              simp only [eC, eRs] at c2
              simp [L_entered_1, eC, eRs, lkR, nI, r1, ha, ho', z1, z2, c2]
              exact fin _
            · rw [if_neg ho] at ss
              have ho' : ¬ (knd R h = "one" ∨ knd R h = "keep") := by simpa [ok2] using ho
              rw [ss] at fin
              simp at fin
              simp [L_entered_1, eC, eRs, lkR, nI, r1, ha, ho', z1]
              exact fin _)
    ⟨[], [r], .un, by simp, EI.start W hr, rfl⟩ (by omega)
  refine ⟨kept, ?_, I.all W C⟩
  simp [F_entered, B_entered, q]
end My
set_option Elab.async false
set_option linter.all false
set_option maxRecDepth 100000
set_option maxHeartbeats 4000000
set_option autoImplicit false
noncomputable section
namespace My
open PySem PySem.Spec L2 DL
open PyProof.Rows hiding St
/-! ### sorted -/
theorem putZ_perm {x : Int} : ∀ {xs : List Int}, (putZ x xs).Perm (x :: xs)
  | [] => List.Perm.refl _
  | y :: r => by
    unfold putZ
    split
    · exact List.Perm.refl _
    · exact (putZ_perm.cons y).trans (List.Perm.swap ..)
theorem srtZ_perm : ∀ {xs : List Int}, (srtZ xs).Perm xs
  | [] => List.Perm.refl _
  | x :: r => putZ_perm.trans (srtZ_perm.cons x)
theorem putZ_sorted {x : Int} : ∀ {xs : List Int}, xs.Pairwise (· ≤ ·) → (putZ x xs).Pairwise (· ≤ ·)
  | [], _ => List.pairwise_singleton ..
  | y :: r, h => by
    unfold putZ
    obtain ⟨h1, h2⟩ := List.pairwise_cons.mp h
    split
    · rename_i hxy
      refine List.pairwise_cons.mpr ⟨fun z hz => ?_, h⟩
      rcases List.mem_cons.mp hz with rfl | hz
      · exact hxy
      · have := h1 z hz
        omega
    · refine List.pairwise_cons.mpr ⟨fun z hz => ?_, putZ_sorted h2⟩
      rcases List.mem_cons.mp (putZ_perm.mem_iff.mp hz) with rfl | hz
      · omega
      · exact h1 z hz
theorem srtZ_sorted : ∀ {xs : List Int}, (srtZ xs).Pairwise (· ≤ ·)
  | [] => List.Pairwise.nil
  | x :: r => putZ_sorted srtZ_sorted
theorem allInts_map : ∀ {xs : List Int}, allInts (xs.map D.int) = some xs
  | [] => rfl
  | x :: r => by
    rw [List.map_cons]
    unfold allInts
    rw [allInts_map]
    rfl
theorem sorted_eq {K S : List Nat} (hK : K.Nodup) (hS : S.Pairwise (· < ·)) (h : ∀ k, k ∈ K ↔ k ∈ S) : sortedD [.lst (K.map nI)] = some (.fr (S.map nI)) := by
  have nS : S.Nodup := hS.imp fun h e => by omega
  have p : K.Perm S := (List.perm_ext_iff_of_nodup hK nS).mpr h
  have e : srtZ (K.map cI) = S.map cI := List.Perm.eq_of_pairwise (le := (· ≤ ·)) (fun a b _ _ h1 h2 => Int.le_antisymm h1 h2) srtZ_sorted (by
    rw [List.pairwise_map]
    exact hS.imp fun h => by unfold cI; omega) (srtZ_perm.trans (p.map cI))
  show (allInts (K.map nI)).map _ = _
  rw [nI_cI, allInts_map, Option.map_some, e, nI_cI]
theorem filter_asc {n : Nat} {p : Nat → Bool} : ((List.range n).filter p).Pairwise (· < ·) := List.Pairwise.filter _ List.pairwise_lt_range
/-- a state -/
def eSt (kept : List Nat) (mem : List Int) : D := .tup [.tup (kept.map nI), .tup (mem.map .int)]
def asc (R : List Rm) (c : Nat → Nat) : List Nat := (List.range R.length).filter (reach R c 0)
theorem reach_congr {R : List Rm} (W : WF R) {c c' : Nat → Nat} (h : ∀ k, k < R.length → ok2 (knd R k) = true → c k = c' k) {r : Nat} : ∀ {k : Nat}, k < R.length → reach R c r k = reach R c' r k := by
  intro k
  induction k using Nat.strongRecOn with
  | ind k ih =>
    intro hk
    rw [Bool.eq_iff_iff, reach_iff W hk, reach_iff W hk]
    by_cases h0 : 0 < k
    · obtain ⟨a, b⟩ := W.hk k h0 hk
      have hl : (hol R k).toNat < R.length := by omega
      rw [ih _ (by omega) hl]
      have : op R c k = op R c' k := by
        unfold op
        by_cases ho : ok2 (knd R (hol R k).toNat) = true
        · rw [h _ hl ho]
        · simp [ho]
      rw [this]
    · simp [h0]
theorem asc_congr {R : List Rm} (W : WF R) {c c' : Nat → Nat} (h : ∀ k, k < R.length → ok2 (knd R k) = true → c k = c' k) : asc R c = asc R c' := by
  unfold asc
  exact List.filter_congr fun k hk => reach_congr W h (List.mem_range.mp hk)
/-! ### the beginning -/
def fst (R : List Rm) (k : Nat) : Nat := (kids R k).headD 0
def memI (R : List Rm) (z : Nat → Int) (k : Nat) : Int := if knd R k = "keep" then z k else -1
def mems (R : List Rm) (z : Nat → Int) : List Int := (List.range R.length).map (memI R z)
theorem mems_at {R : List Rm} {z : Nat → Int} {k : Nat} (hk : k < R.length) : atI ((mems R z).map D.int) (k : Int) = some (.int (memI R z k)) := by
  rw [atI_map, DL.atI_nat]
  simp [mems, hk]
theorem fst_kid {R : List Rm} (W : WF R) {k : Nat} (hk : k < R.length) (h : knd R k ≠ "plain") : fst R k ∈ kids R k ∧ atI ((kids R k).map nI) 0 = some (nI (fst R k)) := by
  have := kids_ne W hk h
  unfold fst
  cases hq : kids R k with
  | nil => exact absurd hq this
  | cons x xs => simp
theorem started_eq {R : List Rm} (W : WF R) {A : List D} : F_started [eC R A] = .ok (.sh (eSt (asc R (fst R)) (mems R fun k => fst R k))) := by
  have n2 := W.n2
  have n1 := W.n1
  obtain ⟨e', q, j2, rfl⟩ := for_rngQ (ix := 2) (body := L_started_1) (lo := 0) (n := R.length) (e := [.sh (eC R A), .ow [], .un])
    (fun i e => ∃ j2, e = [.sh (eC R A), .ow (((List.range i).map (memI R fun k => fst R k)).map .int), j2])
    (by
      rintro k e hk ⟨j2, rfl⟩ Q hQ
      have r1 := rm_atI hk
      obtain ⟨xs, hxs⟩ : ∃ xs, xs = (List.range k).map (memI R fun k => fst R k) := ⟨_, rfl⟩
      have z : xs.length < 100000 := by rw [hxs]; simp; omega
      have s : ((List.range (k + 1)).map (memI R fun k => fst R k)) = xs ++ [memI R (fun k => fst R k) k] := by
        rw [List.range_succ, List.map_append, hxs]
        rfl
      rw [← hxs]
      by_cases h : knd R k = "keep"
      · have c1 := children_eq W (A := A) (k := k)
        have f1 := (fst_kid W hk (by rw [h]; decide)).2
        have t : memI R (fun k => fst R k) k = fst R k := by simp [memI, h]
        simp only [eC, eRs] at c1
        simp [L_started_1, eC, eRs, lkR, r1, h, c1, f1, nI, z]
        exact hQ _ ⟨_, by rw [s, List.map_append, t]; rfl⟩
      · have t : memI R (fun k => fst R k) k = -1 := by simp [memI, h]
        simp [L_started_1, eC, eRs, lkR, r1, h, z]
        exact hQ _ ⟨_, by rw [s, List.map_append, t]; rfl⟩)
    ⟨_, rfl⟩
  have hM : Mem R (.lst ((mems R fun k => fst R k).map .int)) (fst R) := ⟨fun k hk h => by
    rw [o_idxL, mems_at hk]
    simp [memI, h], fun k hk h => (fst_kid W hk (by rw [h]; decide)).1⟩
  obtain ⟨K, f1, nd, hK⟩ := entered_eq W (A := A) hM (r := 0) (goal := 0) (by omega) (by omega)
  have cc : asc R (chz R (fst R) 0) = asc R (fst R) := asc_congr W fun k hk ho => by
    unfold chz
    have : (kids R k).find? (fun j => decide (j ∈ chain R 0)) = none := by
      rw [List.find?_eq_none]
      intro j hj
      have := kids_pos W hj
      rw [chain_0]
      simp
      omega
    rw [this]
    dsimp only
    split <;> rfl
  have so := sorted_eq nd (S := asc R (chz R (fst R) 0)) filter_asc fun k => by rw [hK]; simp [asc]
  rw [cc] at so
  have q : forL 2 L_started_1 (rngD 0 R.length) [.sh (eC R A), .ow [], .un] = .ok .nx [.sh (eC R A), .ow ((mems R fun k => fst R k).map .int), j2] := q
  obtain ⟨ms, hms⟩ : ∃ ms, ms = mems R fun k => fst R k := ⟨_, rfl⟩
  rw [← hms] at q f1 ⊢
  have f1 : F_entered [eC R A, .lst (ms.map .int), .int 0, .int 0] = _ := f1
  simp only [eC, eRs] at q f1
  simp [F_started, B_started, eC, eRs, lkR, near_nat (show R.length < 1000000 by omega), q, f1, so, eSt]
end My
set_option Elab.async false
set_option linter.all false
set_option maxRecDepth 100000
set_option maxHeartbeats 4000000
set_option autoImplicit false
noncomputable section
namespace My
open PySem PySem.Spec L2 DL
open PyProof.Rows hiding St
/-! ### the law's own states -/
/-- a list of choices -/
structure Cho (R : List Rm) (z : Nat → Int) : Prop where
  two : ∀ k, k < R.length → ok2 (knd R k) = true → ∃ j, j ∈ kids R k ∧ z k = (j : Int)
  els : ∀ k, k < R.length → ok2 (knd R k) = false → z k = -1
def zN (z : Nat → Int) (k : Nat) : Nat := (z k).toNat
def zL (R : List Rm) (z : Nat → Int) : List Int := (List.range R.length).map z
theorem zL_at {R : List Rm} {z : Nat → Int} {k : Nat} (hk : k < R.length) : atI ((zL R z).map D.int) (k : Int) = some (.int (z k)) := by
  rw [atI_map, DL.atI_nat]
  simp [zL, hk]
theorem lkept_eq {R : List Rm} (W : WF R) {z : Nat → Int} (C : Cho R z) : F__law_kept [eRs R, .lst ((zL R z).map .int)] = .ok (.fr ((asc R (zN z)).map nI)) := by
  have n2 := W.n2
  have n1 := W.n1
  obtain ⟨e', q, j3, j4, rfl⟩ := for_rngQ (ix := 3) (body := L__law_kept_1) (lo := 1) (n := R.length - 1) (e := [.sh (eRs R), .sh (.lst ((zL R z).map .int)), .ow [.int 0], .un, .un])
    (fun i e => ∃ j3 j4, e = [.sh (eRs R), .sh (.lst ((zL R z).map .int)), .ow (((List.range (i + 1)).filter (reach R (zN z) 0)).map nI), j3, j4])
    (by
      rintro i e hi ⟨j3, j4, rfl⟩ Q hQ
      obtain ⟨k, hk⟩ : ∃ k : Nat, k = i + 1 := ⟨_, rfl⟩
      have hkl : k < R.length := by omega
      have ek : (1 : Int) + (i : Int) = (k : Int) := by omega
      rw [ek, ← hk]
      rw [← hk] at hQ
      obtain ⟨a, b⟩ := W.hk k (by omega) hkl
      obtain ⟨h, hh⟩ : ∃ h : Nat, (h : Int) = hol R k := ⟨(hol R k).toNat, by omega⟩
      have hlt : h < k := by omega
      have hto : (hol R k).toNat = h := by omega
      have r1 := rm_atI hkl
      rw [← hh] at r1
      have r2 := rm_atI (show h < R.length by omega)
      have z1 := zL_at (z := z) (show h < R.length by omega)
      obtain ⟨xs, hxs⟩ : ∃ xs, xs = (List.range k).filter (reach R (zN z) 0) := ⟨_, rfl⟩
      have zz : xs.length < 100000 := by
        have : xs.length ≤ k := by rw [hxs]; exact Nat.le_trans (List.length_filter_le ..) (by simp)
        omega
      have m1 := in_nI (k := h) (T := xs)
      have mx : h ∈ xs ↔ reach R (zN z) 0 h = true := by rw [hxs]; simp [hlt]
      have s : (List.range (k + 1)).filter (reach R (zN z) 0) = xs ++ if reach R (zN z) 0 k = true then [k] else [] := by
        rw [List.range_succ, List.filter_append, hxs]
        simp [List.filter_cons]
      have rk : reach R (zN z) 0 k = true ↔ (h ∈ xs ∧ (knd R h = "all" ∨ z h = k)) := by
        rw [reach_iff W hkl, mx, hto]
        constructor
        · rintro (h | ⟨_, h1, h2⟩)
          · omega
          · refine ⟨h1, ?_⟩
            unfold op at h2
            rw [hto] at h2
            simp only [Bool.or_eq_true, Bool.and_eq_true, decide_eq_true_eq] at h2
            rcases h2 with h2 | ⟨h2, h3⟩
            · exact .inl h2
            · obtain ⟨j, hj, e⟩ := C.two h (by omega) h2
              right
              rw [← h3, zN, e]
              simp
        · rintro ⟨h1, h2⟩
          refine .inr ⟨by omega, h1, ?_⟩
          unfold op
          rw [hto]
          simp only [Bool.or_eq_true, Bool.and_eq_true, decide_eq_true_eq]
          rcases h2 with h2 | h2
          · exact .inl h2
          · right
            cases ho : ok2 (knd R h) with
            | true => exact ⟨rfl, by rw [zN, h2]; simp⟩
            | false =>
              have := C.els h (by omega) ho
              omega
      rw [← hxs]
      by_cases c1 : h ∈ xs
      · by_cases c2 : knd R h = "all"
        · have : reach R (zN z) 0 k = true := rk.mpr ⟨c1, .inl c2⟩
          rw [if_pos this] at s
          simp [L__law_kept_1, eRs, r1, r2, m1, c1, c2, zz]
          exact hQ _ ⟨_, _, by rw [s, List.map_append]; rfl⟩
        · by_cases c3 : z h = k
          · have : reach R (zN z) 0 k = true := rk.mpr ⟨c1, .inr c3⟩
            rw [if_pos this] at s
            simp [L__law_kept_1, eRs, r1, r2, m1, c1, c2, z1, c3, zz]
            exact hQ _ ⟨_, _, by rw [s, List.map_append]; rfl⟩
          · have : ¬ reach R (zN z) 0 k = true := fun q => (rk.mp q).2.elim c2 c3
            rw [if_neg this, List.append_nil] at s
            simp [L__law_kept_1, eRs, r1, r2, m1, c1, c2, z1, c3]
            exact hQ _ ⟨_, _, by rw [s]; rfl⟩
      · have : ¬ reach R (zN z) 0 k = true := fun q => c1 (rk.mp q).1
        rw [if_neg this, List.append_nil] at s
        simp [L__law_kept_1, eRs, r1, m1, c1]
        exact hQ _ ⟨_, _, by rw [s]; rfl⟩)
    ⟨_, _, by
      have : (List.range (0 + 1)).filter (reach R (zN z) 0) = [0] := by
        have : reach R (zN z) 0 0 = true := (reach_iff W (by omega)).mpr (.inl rfl)
        simp [List.range_succ, this]
      rw [this]; rfl⟩
  rw [show R.length - 1 + 1 = R.length by omega] at q
  have e : ((R.length : Int) - 1).toNat = R.length - 1 := by omega
  obtain ⟨ks, hks⟩ : ∃ ks, ks = asc R (zN z) := ⟨_, rfl⟩
  have q : _ = Out.ok Fl.nx [.sh (eRs R), .sh (.lst ((zL R z).map .int)), .ow ((asc R (zN z)).map nI), j3, j4] := q
  rw [← hks] at q ⊢
  obtain ⟨zs, hzs⟩ : ∃ zs, zs = zL R z := ⟨_, rfl⟩
  rw [← hzs] at q ⊢
  simp only [eRs] at q
  simp [F__law_kept, B__law_kept, eRs, near_nat (show R.length < 1000000 by omega), e, q]
theorem lstate_eq {R : List Rm} (W : WF R) {z : Nat → Int} (C : Cho R z) : F__law_state [eRs R, .lst ((zL R z).map .int)] = .ok (.sh (eSt (asc R (zN z)) (mems R z))) := by
  have n2 := W.n2
  obtain ⟨zs, hzs⟩ : ∃ zs, zs = zL R z := ⟨_, rfl⟩
  obtain ⟨e', q, j3, rfl⟩ := for_rngQ (ix := 3) (body := L__law_state_1) (lo := 0) (n := R.length) (e := [.sh (eRs R), .sh (.lst (zs.map .int)), .ow [], .un])
    (fun i e => ∃ j3, e = [.sh (eRs R), .sh (.lst (zs.map .int)), .ow (((List.range i).map (memI R z)).map .int), j3])
    (by
      rintro k e hk ⟨j3, rfl⟩ Q hQ
      have r1 := rm_atI hk
      have z1 := zL_at (z := z) hk
      rw [← hzs] at z1
      obtain ⟨xs, hxs⟩ : ∃ xs, xs = (List.range k).map (memI R z) := ⟨_, rfl⟩
      have zz : xs.length < 100000 := by rw [hxs]; simp; omega
      have s : ((List.range (k + 1)).map (memI R z)) = xs ++ [memI R z k] := by
        rw [List.range_succ, List.map_append, hxs]
        rfl
      rw [← hxs]
      by_cases h : knd R k = "keep"
      · have t : memI R z k = z k := by simp [memI, h]
        simp [L__law_state_1, eRs, r1, h, z1, zz]
        exact hQ _ ⟨_, by rw [s, List.map_append, t]; rfl⟩
      · have t : memI R z k = -1 := by simp [memI, h]
        simp [L__law_state_1, eRs, r1, h, zz]
        exact hQ _ ⟨_, by rw [s, List.map_append, t]; rfl⟩)
    ⟨_, rfl⟩
  have k1 := lkept_eq W C
  obtain ⟨ms, hms⟩ : ∃ ms, ms = mems R z := ⟨_, rfl⟩
  have q : _ = Out.ok Fl.nx [.sh (eRs R), .sh (.lst (zs.map .int)), .ow ((mems R z).map .int), j3] := q
  rw [← hms] at q ⊢
  rw [← hzs] at k1 ⊢
  simp only [eRs] at q k1
  simp [F__law_state, B__law_state, eRs, near_nat (show R.length < 1000000 by omega), q, k1, eSt]
/-- the first choice -/
def fz (R : List Rm) (k : Nat) : Int := if ok2 (knd R k) = true then (fst R k : Int) else -1
theorem fz_cho {R : List Rm} (W : WF R) : Cho R (fz R) := ⟨fun k hk ho => ⟨fst R k, (fst_kid W hk (ok2_ne ho)).1, by simp [fz, ho]⟩, fun k hk ho => by simp [fz, ho]⟩
theorem lfirst_eq {R : List Rm} (W : WF R) : F__law_first [eRs R] = .ok (.fr ((zL R (fz R)).map .int)) := by
  have n2 := W.n2
  obtain ⟨e', q, j2, j3, rfl⟩ := for_rngQ (ix := 2) (body := L__law_first_1) (lo := 0) (n := R.length) (e := [.sh (eRs R), .ow [], .un, .un, .un])
    (fun i e => ∃ j2 j3, e = [.sh (eRs R), .ow (((List.range i).map (fz R)).map .int), j2, j3, .un])
    (by
      rintro k e hk ⟨j2, j3, rfl⟩ Q hQ
      have r1 := rm_atI hk
      have hc : ∀ e : List DL.Slot, e[4]? = some .un → e[0]? = some (.sh (.lst (R.map eR))) → e[2]? = some (.sh (.int k)) → compL 4 (asB (op2 eqD (op2 idxD (op2 idxD (v 0) (v 4)) (kc (.int 0))) (v 2))) (v 4) (rngD 0 R.length) [] e = .ok ((kids R k).map nI) e := by
        intro e h4 h0 h2
        obtain ⟨hl, _⟩ := List.getElem?_eq_some_iff.mp h4
        have := DL.comp_map (ix := 4) (t := asB (op2 eqD (op2 idxD (op2 idxD (v 0) (v 4)) (kc (.int 0))) (v 2))) (f := v 4) (e := e) (g := fun j : Nat => D.int (0 + (j : Nat))) (g' := nI) (p := fun j => decide (hol R j = k)) (w := fun j => j) (xs := List.range R.length) (by simp; omega)
          (fun j hj => by simp [hl, h0, h2, rm_atI (List.mem_range.mp hj)]) (fun j hj _ => ⟨.sh (nI j), by simp [nI, hl], rfl⟩) h4
        rw [← rng_map] at this
        rw [this]
        simp [kids]
      obtain ⟨xs, hxs⟩ : ∃ xs, xs = (List.range k).map (fz R) := ⟨_, rfl⟩
      have zz : xs.length < 100000 := by rw [hxs]; simp; omega
      have s : ((List.range (k + 1)).map (fz R)) = xs ++ [fz R k] := by
        rw [List.range_succ, List.map_append, hxs]
        rfl
      rw [← hxs]
      have nn : Near (R.length : Int) := near_nat (by omega)
      by_cases ho : ok2 (knd R k) = true
      · have t : fz R k = fst R k := by simp [fz, ho]
        have ho' : knd R k = "one" ∨ knd R k = "keep" := by simpa [ok2] using ho
        have f1 := (fst_kid W hk (ok2_ne ho)).2
        simp [L__law_first_1, eRs, r1, ho', f1, nI, zz, nn, hc]
        exact hQ _ ⟨_, _, by rw [s, List.map_append, t]; rfl⟩
      · have t : fz R k = -1 := by simp [fz, ho]
        have ho' : ¬ (knd R k = "one" ∨ knd R k = "keep") := by simpa [ok2] using ho
        simp [L__law_first_1, eRs, r1, ho', zz, nn, hc]
        exact hQ _ ⟨_, _, by rw [s, List.map_append, t]; rfl⟩)
    ⟨_, _, rfl⟩
  have q : _ = Out.ok Fl.nx [.sh (eRs R), .ow ((zL R (fz R)).map .int), j2, j3, .un] := q
  obtain ⟨zs, hzs⟩ : ∃ zs, zs = zL R (fz R) := ⟨_, rfl⟩
  rw [← hzs] at q ⊢
  simp only [eRs] at q
  simp [F__law_first, B__law_first, eRs, near_nat (show R.length < 1000000 by omega), q]
theorem begin_eq {R : List Rm} (W : WF R) : eSt (asc R (zN (fz R))) (mems R (fz R)) = eSt (asc R (fst R)) (mems R fun k => fst R k) := by
  congr 1
  · exact asc_congr W fun k hk ho => by simp [zN, fz, ho]
  · unfold mems
    refine List.map_congr_left fun k hk => ?_
    unfold memI
    by_cases h : knd R k = "keep"
    · rw [if_pos h, if_pos h]
      simp [fz, h, ok2]
    · rw [if_neg h, if_neg h]
end My
set_option Elab.async false
set_option linter.all false
set_option maxRecDepth 100000
set_option maxHeartbeats 4000000
set_option autoImplicit false
noncomputable section
namespace My
open PySem PySem.Spec L2 DL
open PyProof.Rows hiding St
theorem row_eq {ds : List Int} (hl : ds.length < 1000000) : F__law_row [.tup (ds.map .int), .tup (ds.map .int)] = .ok (.sh (.bl true)) := by
  obtain ⟨e', q, ⟨j2, rfl⟩⟩ := for_rngQ (ix := 2) (body := L__law_row_1) (lo := 0) (n := ds.length) (e := [.sh (.tup (ds.map .int)), .sh (.tup (ds.map .int)), .un])
    (fun i e => ∃ j2, e = [.sh (.tup (ds.map .int)), .sh (.tup (ds.map .int)), j2])
    (by
      rintro i e hi ⟨j2, rfl⟩ Q hQ
      have hat : atI (ds.map D.int) (i : Int) = some (.int ds[i]) := by rw [atI_map, DL.atI_nat, List.getElem?_eq_getElem hi]; rfl
      simp [L__law_row_1, hat]
      exact hQ _ ⟨_, rfl⟩)
    ⟨_, rfl⟩
  simp [F__law_row, B__law_row, near_nat hl, q]
theorem same_eq {ks : List Nat} {ms : List Int} (h1 : ks.length < 1000000) (h2 : ms.length < 1000000) : F__law_same_state [eSt ks ms, eSt ks ms] = .ok (.sh (.bl true)) := by
  have r1 := row_eq (ds := ks.map cI) (by simpa using h1)
  have r2 := row_eq h2
  rw [← nI_cI] at r1
  simp [F__law_same_state, B__law_same_state, eSt, r1, r2]
end My
set_option Elab.async false
set_option linter.all false
set_option maxRecDepth 100000
set_option maxHeartbeats 4000000
set_option autoImplicit false
noncomputable section
namespace My
open PySem PySem.Spec L2 DL
open PyProof.Rows hiding St
/-! ### arrows -/
structure Ar where
  src : Nat
  ev : Int
  gd : Int
  tgt : Nat
  deed : Int
def eA (a : Ar) : D := .tup [.int a.src, .int a.ev, .int a.gd, .int a.tgt, .int a.deed]
structure GA (R : List Rm) (a : Ar) : Prop where
  s : a.src < R.length
  t : a.tgt < R.length
  e : 0 ≤ a.ev ∧ a.ev < 4
  g : -1 ≤ a.gd ∧ a.gd < R.length
  d : 0 ≤ a.deed ∧ a.deed < 100
  sc : ∃ m, scp R a.src a.tgt = some m
theorem arrows_ok {R : List Rm} (W : WF R) {A : List Ar} (hA : ∀ a ∈ A, GA R a) (hl : A.length ≤ 20) : F_look_at_arrows [eC R (A.map eA)] = .ok (.sh .non) := by
  obtain ⟨e', q, j2, rfl⟩ := for_mapQ (ix := 2) (body := L_look_at_arrows_1) (f := eA) (xs := A) (e := [.sh (eC R (A.map eA)), .sh (.int R.length), .un])
    (fun l e => ∃ j2, e = [.sh (eC R (A.map eA)), .sh (.int R.length), j2])
    (by
      rintro l a e ha _ ⟨j2, rfl⟩ Q hQ
      have g := hA a ha
      obtain ⟨m, hm⟩ := g.sc
      have c := scope_eq W (A := A.map eA) g.s g.t
      rw [hm] at c
      have e1 := g.e
      have e2 := g.g
      have e3 := g.d
      have e4 := g.s
      have e5 := g.t
      have i4 : (a.src : Int) < (R.length : Int) := by omega
      have i5 : (a.tgt : Int) < (R.length : Int) := by omega
      simp [L_look_at_arrows_1, eA, c, eO, e1.1, e1.2, e2.1, e2.2, e3.1, e3.2, e4, e5, i4, i5]
      exact hQ _ ⟨_, rfl⟩)
    ⟨_, rfl⟩
  have h20 : ¬ ((20 : Int) < (A.length : Int)) := by omega
  have h20' : ¬ (20 < A.length) := by omega
  simp only [eC, eRs] at q
  simp [F_look_at_arrows, B_look_at_arrows, eC, eRs, lkR, lkA, h20, h20', q]
theorem chart_eq {R : List Rm} (W : WF R) {A : List Ar} (hA : ∀ a ∈ A, GA R a) (hl : A.length ≤ 20) : F_Chart__init [eRs R, .lst (A.map eA)] = .ok (.sh (eC R (A.map eA))) := chart_ok W (arrows_ok W hA hl)
end My
set_option Elab.async false
set_option linter.all false
set_option maxRecDepth 100000
set_option maxHeartbeats 4000000
set_option autoImplicit false
noncomputable section
namespace My
open PySem PySem.Spec L2 DL
open PyProof.Rows hiding St
/-! ### arrows that clash -/
def scA (R : List Rm) (a : Ar) : Nat := (scp R a.src a.tgt).getD 0
theorem scA_eq {R : List Rm} {a : Ar} (g : GA R a) : scp R a.src a.tgt = some (scA R a) := by
  obtain ⟨m, hm⟩ := g.sc
  simp [scA, hm]
theorem lastOf_lt {p : Nat → Bool} : ∀ {n k : Nat}, lastOf p n = some k → k < n ∧ p k = true
  | 0, _, h => by cases h
  | n + 1, k, h => by
    unfold lastOf at h
    split at h
    · rename_i hp
      cases h
      exact ⟨by omega, hp⟩
    · have := lastOf_lt h
      exact ⟨by omega, this.2⟩
theorem scA_lt {R : List Rm} {a : Ar} (g : GA R a) : scA R a < R.length := (lastOf_lt (scA_eq g)).1
def nested (R : List Rm) (a b : Ar) : Bool := decide (scA R b ∈ chain R (scA R a)) || decide (scA R a ∈ chain R (scA R b))
/-- the first pair -/
def pairIn (R : List Rm) (A : List Ar) (k : Nat) (j : Nat) : Option RV := match A[k]?, A[j]? with
  | some a, some b => if k < j ∧ nested R a b = true then some (.sh (.tup [.int k, .int j])) else none
  | _, _ => none
def pairOf (R : List Rm) (A : List Ar) (ns : List Nat) : Option RV := ns.findSome? fun k => ns.findSome? (pairIn R A k)
def outP : Option RV → RV
  | some r => r
  | none => .sh .non
theorem clash_eq {R : List Rm} (W : WF R) {A : List Ar} (hA : ∀ a ∈ A, GA R a) {ns : List Nat} (hn : ∀ k ∈ ns, k < A.length) : F_clash_of [eC R (A.map eA), .lst (ns.map nI)] = .ok (outP (pairOf R A ns)) := by
  have inner : ∀ k ∈ ns, ∀ (a : Ar), A[k]? = some a → ∀ j4 j5, match ns.findSome? (pairIn R A k) with
      | some z => ∃ e', forL 4 L_clash_of_2 (ns.map nI) [.sh (eC R (A.map eA)), .sh (.lst (ns.map nI)), .sh (.int k), .sh (.int (scA R a)), j4, j5] = .ok (.rt z) e'
      | none => ∃ e', forL 4 L_clash_of_2 (ns.map nI) [.sh (eC R (A.map eA)), .sh (.lst (ns.map nI)), .sh (.int k), .sh (.int (scA R a)), j4, j5] = .ok .nx e' ∧ ∃ j4 j5, e' = [.sh (eC R (A.map eA)), .sh (.lst (ns.map nI)), .sh (.int k), .sh (.int (scA R a)), j4, j5] := by
    intro k hk a ha j4 j5
    refine for_some (f := nI) (r := pairIn R A k) (I := fun e => ∃ j4 j5, e = [.sh (eC R (A.map eA)), .sh (.lst (ns.map nI)), .sh (.int k), .sh (.int (scA R a)), j4, j5]) ns _ ?_ ⟨_, _, rfl⟩
    rintro j hj e ⟨j4, j5, rfl⟩
    have hjl := hn j hj
    obtain ⟨b, hb⟩ : ∃ b, A[j]? = some b := ⟨_, List.getElem?_eq_getElem hjl⟩
    have ga := hA a (List.mem_of_getElem? ha)
    have gb := hA b (List.mem_of_getElem? hb)
    have at_ : atI (A.map eA) (j : Int) = some (eA b) := by rw [atI_map, DL.atI_nat, hb]; rfl
    have c := scope_eq W (A := A.map eA) gb.s gb.t
    rw [scA_eq gb] at c
    have w1 := within_eq W (A := A.map eA) (scA_lt ga) (scA_lt gb)
    have w2 := within_eq W (A := A.map eA) (scA_lt gb) (scA_lt ga)
    simp only [eC, eRs, eO] at c w1 w2
    have hr : pairIn R A k j = if k < j ∧ nested R a b = true then some (.sh (.tup [.int k, .int j])) else none := by simp [pairIn, ha, hb]
    rw [hr]
    have lt : ((k : Int) < (j : Int)) ↔ k < j := by omega
    by_cases h1 : k < j
    · by_cases h2 : scA R b ∈ chain R (scA R a)
      · rw [if_pos ⟨h1, by simp [nested, h2]⟩]
        exact ⟨_, by simp [L_clash_of_2, eC, eRs, lkA, nI, at_, eA, c, w1, w2, h1, h2]; rfl⟩
      · by_cases h3 : scA R a ∈ chain R (scA R b)
        · rw [if_pos ⟨h1, by simp [nested, h3]⟩]
          exact ⟨_, by simp [L_clash_of_2, eC, eRs, lkA, nI, at_, eA, c, w1, w2, h1, h2, h3]; rfl⟩
        · rw [if_neg (by simp [nested, h2, h3])]
          exact ⟨_, .inl (by simp [L_clash_of_2, eC, eRs, lkA, nI, at_, eA, c, w1, w2, h1, h2, h3]; exact ⟨rfl, rfl⟩), _, _, rfl⟩
    · rw [if_neg (by simp [h1])]
      exact ⟨_, .inl (by simp [L_clash_of_2, eC, eRs, lkA, nI, at_, eA, c, h1]; exact ⟨rfl, rfl⟩), _, _, rfl⟩
  have outer := for_some (ix := 2) (body := L_clash_of_1) (f := nI) (r := fun k => ns.findSome? (pairIn R A k)) (I := fun e => ∃ j2 j3 j4 j5, e = [.sh (eC R (A.map eA)), .sh (.lst (ns.map nI)), j2, j3, j4, j5]) ns [.sh (eC R (A.map eA)), .sh (.lst (ns.map nI)), .un, .un, .un, .un] (by
    rintro k hk e ⟨j2, j3, j4, j5, rfl⟩
    obtain ⟨a, ha⟩ : ∃ a, A[k]? = some a := ⟨_, List.getElem?_eq_getElem (hn k hk)⟩
    have ga := hA a (List.mem_of_getElem? ha)
    have at_ : atI (A.map eA) (k : Int) = some (eA a) := by rw [atI_map, DL.atI_nat, ha]; rfl
    have c := scope_eq W (A := A.map eA) ga.s ga.t
    rw [scA_eq ga] at c
    have q := inner k hk a ha j4 j5
    simp only [eC, eRs, eO] at c q ⊢
    cases hf : ns.findSome? (pairIn R A k) with
    | some z =>
      rw [hf] at q
      obtain ⟨e', q⟩ := q
      exact ⟨_, by simp [L_clash_of_1, lkA, nI, at_, eA, c]; rw [q]⟩
    | none =>
      rw [hf] at q
      obtain ⟨e', q, j4', j5', rfl⟩ := q
      exact ⟨_, .inl (by simp [L_clash_of_1, lkA, nI, at_, eA, c]; rw [q]), _, _, _, _, rfl⟩) ⟨_, _, _, _, rfl⟩
  unfold pairOf
  cases hf : ns.findSome? fun k => ns.findSome? (pairIn R A k) with
  | some z =>
    rw [hf] at outer
    obtain ⟨e', q⟩ := outer
    have : ∃ d, z = .sh d := by
      obtain ⟨k, _, hk⟩ := List.exists_of_findSome?_eq_some hf
      obtain ⟨j, _, hj⟩ := List.exists_of_findSome?_eq_some hk
      unfold pairIn at hj
      split at hj
      · split at hj
        · cases hj; exact ⟨_, rfl⟩
        · cases hj
      · cases hj
    obtain ⟨d, rfl⟩ := this
    simp [F_clash_of, B_clash_of, q, outP]
  | none =>
    rw [hf] at outer
    obtain ⟨e', q, _⟩ := outer
    simp [F_clash_of, B_clash_of, q, outP]
end My
set_option Elab.async false
set_option linter.all false
set_option maxRecDepth 100000
set_option maxHeartbeats 4000000
set_option autoImplicit false
noncomputable section
namespace My
open PySem PySem.Spec L2 DL
open PyProof.Rows hiding St
/-! ### the arrows that a script draws -/
theorem lcells_eq {ns : List Int} {s n : Nat} (hn : n ≤ 1000) : ∃ cs : List Int, F__law_cells [.scr ns, .int s, .int n] = .ok (.fr (cs.map .int)) ∧ cs.length = n := by
  refine ⟨(List.range n).map fun k : Nat => cl ns ((s : Int) + (k : Nat)), ?_, by simp⟩
  have c := comp_all (ix := 3) (f := callU F__law_cell_at [(v 0), (op2 addD (v 1) (v 3))]) (e := [.sh (.scr ns), .sh (.int s), .sh (.int n), .un]) (g := fun k : Nat => D.int (0 + (k : Nat))) (g' := D.int) (w := fun k : Nat => cl ns ((s : Int) + (k : Nat))) (xs := List.range n) (by simp; omega)
    (fun k hk => ⟨.sh (.int (cl ns ((s : Int) + (k : Nat)))), by simp [cell_eq (ns := ns) (k := (s : Int) + (k : Nat)) (by omega)], rfl⟩) rfl
  rw [← rng_map] at c
  simp only [F__law_cells, B__law_cells, e_def, e_ret, e_comp, e_itR1, e_asI', e_v]
  simp [near_nat (show n < 1000000 by omega), c]
theorem larrows_eq {R : List Rm} (W : WF R) {cs : List Int} (hc : cs.length ≤ 1000) {free : Bool} :
    ∃ A : List Ar, F__law_arrows [eRs R, .lst (cs.map .int), .bl free] = .ok (.fr (A.map eA)) ∧ (∀ a ∈ A, GA R a) ∧ A.length ≤ cs.length / 2 := by
  have n1 := W.n1
  have n2 := W.n2
  obtain ⟨e', q, A, j5, j6, j7, j8, j9, rfl, hA, hl⟩ := for_rngQ (ix := 5) (body := L__law_arrows_1) (lo := 0) (n := cs.length / 2) (e := [.sh (eRs R), .sh (.lst (cs.map .int)), .sh (.bl free), .ow [], .sh (.int R.length), .un, .un, .un, .un, .un])
    (fun i e => ∃ (A : List Ar) (j5 j6 j7 j8 j9 : DL.Slot), e = [.sh (eRs R), .sh (.lst (cs.map .int)), .sh (.bl free), .ow (A.map eA), .sh (.int R.length), j5, j6, j7, j8, j9] ∧ (∀ a ∈ A, GA R a) ∧ A.length ≤ i)
    (by
      rintro k e hk ⟨A, j5, j6, j7, j8, j9, rfl, hA, hl⟩ Q hQ
      obtain ⟨one, h1⟩ : ∃ x, atI (cs.map D.int) (2 * (k : Int)) = some (.int x) := by
        refine ⟨cs[2 * k], ?_⟩
        rw [show 2 * (k : Int) = ((2 * k : Nat) : Int) by omega, atI_map, DL.atI_nat, List.getElem?_eq_getElem (by omega)]
        rfl
      obtain ⟨two, h2⟩ : ∃ x, atI (cs.map D.int) (2 * (k : Int) + 1) = some (.int x) := by
        refine ⟨cs[2 * k + 1], ?_⟩
        rw [show 2 * (k : Int) + 1 = ((2 * k + 1 : Nat) : Int) by omega, atI_map, DL.atI_nat, List.getElem?_eq_getElem (by omega)]
        rfl
      obtain ⟨n, hn⟩ : ∃ n : Int, n = (R.length : Int) := ⟨_, rfl⟩
      have p1 : 0 < n := by omega
      have p2 : n < 1073741824 := by omega
      have p3 : Fits n := ⟨by omega, by omega⟩
      have p4 : Fits (k : Int) := fits_nat (by omega)
      have p5 : 0 < 1 + (k : Int) % 2 * 3 := by omega
      have p6 : 0 < 2 * n := by omega
      obtain ⟨s, hs⟩ : ∃ s : Nat, (s : Int) = one % n := ⟨(one % n).toNat, by have := Int.emod_nonneg one (show n ≠ 0 by omega); omega⟩
      obtain ⟨t, ht⟩ : ∃ t : Nat, (t : Int) = two % n := ⟨(two % n).toNat, by have := Int.emod_nonneg two (show n ≠ 0 by omega); omega⟩
      have hsl : s < R.length := by have := Int.emod_lt_of_pos one p1; omega
      have htl : t < R.length := by have := Int.emod_lt_of_pos two p1; omega
      have c := lscope_eq W hsl htl
      obtain ⟨g0, hg0⟩ : ∃ g0 : Int, g0 = two / n % (2 * n) - 1 := ⟨_, rfl⟩
      have hg1 : -1 ≤ g0 := by have := Int.emod_nonneg (two / n) (show 2 * n ≠ 0 by omega); omega
      have z : A.length < 100000 := by omega
      have key : ∀ (ev gd : Int), (0 ≤ ev ∧ ev < 4) → (-1 ≤ gd ∧ gd < n) → (∃ m, scp R s t = some m) → ∀ j5 j6 j7 j8 j9,
          Q [.sh (eRs R), .sh (.lst (cs.map .int)), .sh (.bl free), .ow (A.map eA ++ [.tup [.int s, .int ev, .int gd, .int t, .int (one / 5 % 100)]]), .sh (.int R.length), j5, j6, j7, j8, j9] := by
        intro ev gd hev hgd hm j5 j6 j7 j8 j9
        refine hQ _ ⟨A ++ [⟨s, ev, gd, t, one / 5 % 100⟩], _, _, _, _, _, by rw [List.map_append]; rfl, ?_, by simp; omega⟩
        intro a ha
        rcases List.mem_append.mp ha with ha | ha
        · exact hA a ha
        · simp at ha
          subst ha
          exact ⟨hsl, htl, hev, by rw [← hn]; exact hgd, ⟨by dsimp only; omega, by dsimp only; omega⟩, hm⟩
      have skip : ∀ j5 j6 j7 j8 j9, Q [.sh (eRs R), .sh (.lst (cs.map .int)), .sh (.bl free), .ow (A.map eA), .sh (.int R.length), j5, j6, j7, j8, j9] := fun j5 j6 j7 j8 j9 => hQ _ ⟨A, _, _, _, _, _, rfl, hA, by omega⟩
      rw [← hn] at key skip ⊢
      cases hm : scp R s t with
      | none =>
        rw [hm] at c
        by_cases hg : n ≤ g0
        · cases free <;> (simp [L__law_arrows_1, h1, h2, p1, p2, p3, p4, p5, p6, ← hs, ← ht, c, eO, ← hg0, hg]; exact skip _ _ _ _ _)
        · cases free <;> (simp [L__law_arrows_1, h1, h2, p1, p2, p3, p4, p5, p6, ← hs, ← ht, c, eO, ← hg0, hg]; exact skip _ _ _ _ _)
      | some m =>
        rw [hm] at c
        by_cases hg : n ≤ g0
        · cases free <;> (simp [L__law_arrows_1, h1, h2, p1, p2, p3, p4, p5, p6, ← hs, ← ht, c, eO, ← hg0, hg, z]; exact key _ _ (by omega) (by omega) ⟨m, hm⟩ _ _ _ _ _)
        · cases free <;> (simp [L__law_arrows_1, h1, h2, p1, p2, p3, p4, p5, p6, ← hs, ← ht, c, eO, ← hg0, hg, z]; exact key _ _ (by omega) (by omega) ⟨m, hm⟩ _ _ _ _ _))
    ⟨[], _, _, _, _, _, rfl, by simp, by simp⟩
  refine ⟨A, ?_, hA, hl⟩
  have e1 : ((cs.length : Int) / 2).toNat = cs.length / 2 := by omega
  have e2 : Near ((cs.length : Int) / 2) := ⟨by omega, by omega⟩
  simp only [eRs] at q
  simp [F__law_arrows, B__law_arrows, eRs, e1, e2, q]
end My
set_option Elab.async false
set_option linter.all false
set_option maxRecDepth 100000
set_option maxHeartbeats 4000000
set_option autoImplicit false
noncomputable section
namespace My
open PySem PySem.Spec L2 DL
open PyProof.Rows hiding St
theorem pairOf_sh {R : List Rm} {A : List Ar} {ns : List Nat} {z : RV} (hf : pairOf R A ns = some z) : ∃ k j : Nat, z = .sh (.tup [.int k, .int j]) := by
  obtain ⟨k, _, hk⟩ := List.exists_of_findSome?_eq_some hf
  obtain ⟨j, _, hj⟩ := List.exists_of_findSome?_eq_some hk
  unfold pairIn at hj
  split at hj
  · split at hj
    · cases hj; exact ⟨_, _, rfl⟩
    · cases hj
  · cases hj
theorem lpair_eq {R : List Rm} (W : WF R) {A : List Ar} (hA : ∀ a ∈ A, GA R a) {ns : List Nat} (hn : ∀ k ∈ ns, k < A.length) : F__law_pair [eRs R, .lst (A.map eA), .lst (ns.map nI)] = .ok (outP (pairOf R A ns)) := by
  have inner : ∀ k ∈ ns, ∀ (a : Ar), A[k]? = some a → ∀ j5 j6 j7, match ns.findSome? (pairIn R A k) with
      | some z => ∃ e', forL 5 L__law_pair_2 (ns.map nI) [.sh (eRs R), .sh (.lst (A.map eA)), .sh (.lst (ns.map nI)), .sh (.int k), .sh (.int (scA R a)), j5, j6, j7] = .ok (.rt z) e'
      | none => ∃ e', forL 5 L__law_pair_2 (ns.map nI) [.sh (eRs R), .sh (.lst (A.map eA)), .sh (.lst (ns.map nI)), .sh (.int k), .sh (.int (scA R a)), j5, j6, j7] = .ok .nx e' ∧ ∃ j5 j6 j7, e' = [.sh (eRs R), .sh (.lst (A.map eA)), .sh (.lst (ns.map nI)), .sh (.int k), .sh (.int (scA R a)), j5, j6, j7] := by
    intro k hk a ha j5 j6 j7
    refine for_some (f := nI) (r := pairIn R A k) (I := fun e => ∃ j5 j6 j7, e = [.sh (eRs R), .sh (.lst (A.map eA)), .sh (.lst (ns.map nI)), .sh (.int k), .sh (.int (scA R a)), j5, j6, j7]) ns _ ?_ ⟨_, _, _, rfl⟩
    rintro j hj e ⟨j5, j6, j7, rfl⟩
    obtain ⟨b, hb⟩ : ∃ b, A[j]? = some b := ⟨_, List.getElem?_eq_getElem (hn j hj)⟩
    have ga := hA a (List.mem_of_getElem? ha)
    have gb := hA b (List.mem_of_getElem? hb)
    have at_ : atI (A.map eA) (j : Int) = some (eA b) := by rw [atI_map, DL.atI_nat, hb]; rfl
    have c := lscope_eq W gb.s gb.t
    rw [scA_eq gb] at c
    have w1 := lchain_eq W (scA_lt gb)
    have w2 := lchain_eq W (scA_lt ga)
    have i1 := in_nI (k := scA R a) (T := chain R (scA R b))
    have i2 := in_nI (k := scA R b) (T := chain R (scA R a))
    obtain ⟨X, hX⟩ : ∃ X, X = chain R (scA R b) := ⟨_, rfl⟩
    obtain ⟨Y, hY⟩ : ∃ Y, Y = chain R (scA R a) := ⟨_, rfl⟩
    have hne : nested R a b = (decide (scA R b ∈ Y) || decide (scA R a ∈ X)) := by rw [hX, hY]; rfl
    rw [← hX] at w1 i1
    rw [← hY] at w2 i2
    simp only [eRs, eO] at c w1 w2 ⊢
    have hr : pairIn R A k j = if k < j ∧ nested R a b = true then some (.sh (.tup [.int k, .int j])) else none := by simp [pairIn, ha, hb]
    rw [hr, hne]
    by_cases h1 : k < j
    · by_cases h2 : scA R a ∈ X
      · rw [if_pos ⟨h1, by simp [h2]⟩]
        exact ⟨_, by simp [L__law_pair_2, nI, at_, eA, c, w1, w2, i1, i2, h1, h2]; rfl⟩
      · by_cases h3 : scA R b ∈ Y
        · rw [if_pos ⟨h1, by simp [h3]⟩]
          exact ⟨_, by simp [L__law_pair_2, nI, at_, eA, c, w1, w2, i1, i2, h1, h2, h3]; rfl⟩
        · rw [if_neg (by simp [h2, h3])]
          exact ⟨_, .inl (by simp [L__law_pair_2, nI, at_, eA, c, w1, w2, i1, i2, h1, h2, h3]; exact ⟨rfl, rfl, rfl⟩), _, _, _, rfl⟩
    · rw [if_neg (by simp [h1])]
      by_cases h2 : scA R a ∈ X
      · exact ⟨_, .inl (by simp [L__law_pair_2, nI, at_, eA, c, w1, w2, i1, i2, h1, h2]; exact ⟨rfl, rfl, rfl⟩), _, _, _, rfl⟩
      · exact ⟨_, .inl (by simp [L__law_pair_2, nI, at_, eA, c, w1, w2, i1, i2, h1, h2]; exact ⟨rfl, rfl, rfl⟩), _, _, _, rfl⟩
  have outer := for_some (ix := 3) (body := L__law_pair_1) (f := nI) (r := fun k => ns.findSome? (pairIn R A k)) (I := fun e => ∃ j3 j4 j5 j6 j7, e = [.sh (eRs R), .sh (.lst (A.map eA)), .sh (.lst (ns.map nI)), j3, j4, j5, j6, j7]) ns [.sh (eRs R), .sh (.lst (A.map eA)), .sh (.lst (ns.map nI)), .un, .un, .un, .un, .un] (by
    rintro k hk e ⟨j3, j4, j5, j6, j7, rfl⟩
    obtain ⟨a, ha⟩ : ∃ a, A[k]? = some a := ⟨_, List.getElem?_eq_getElem (hn k hk)⟩
    have ga := hA a (List.mem_of_getElem? ha)
    have at_ : atI (A.map eA) (k : Int) = some (eA a) := by rw [atI_map, DL.atI_nat, ha]; rfl
    have c := lscope_eq W ga.s ga.t
    rw [scA_eq ga] at c
    have q := inner k hk a ha j5 j6 j7
    simp only [eRs, eO] at c q ⊢
    cases hf : ns.findSome? (pairIn R A k) with
    | some z =>
      rw [hf] at q
      obtain ⟨e', q⟩ := q
      exact ⟨_, by simp [L__law_pair_1, nI, at_, eA, c]; rw [q]⟩
    | none =>
      rw [hf] at q
      obtain ⟨e', q, j5', j6', j7', rfl⟩ := q
      exact ⟨_, .inl (by simp [L__law_pair_1, nI, at_, eA, c]; rw [q]), _, _, _, _, _, rfl⟩) ⟨_, _, _, _, _, rfl⟩
  cases hf : pairOf R A ns with
  | some z =>
    obtain ⟨k, j, rfl⟩ := pairOf_sh hf
    unfold pairOf at hf
    rw [hf] at outer
    obtain ⟨e', q⟩ := outer
    simp [F__law_pair, B__law_pair, q, outP]
  | none =>
    unfold pairOf at hf
    rw [hf] at outer
    obtain ⟨e', q, _⟩ := outer
    simp [F__law_pair, B__law_pair, q, outP]
end My
set_option Elab.async false
set_option linter.all false
set_option maxRecDepth 100000
set_option maxHeartbeats 4000000
set_option autoImplicit false
noncomputable section
namespace My
open PySem PySem.Spec L2 DL
open PyProof.Rows hiding St
/-! ### takeable -/
/-- a datum in which just these ints are -/
def InK (Kd : D) (is : List Int) : Prop := ∀ i : Int, inD (.int i) Kd = some (.sh (.bl (decide (i ∈ is))))
theorem inK_lst {ks : List Nat} : InK (.lst (ks.map nI)) (ks.map cI) := fun i => by rw [nI_cI]; exact o_inL
theorem o_inT {i : Int} {xs : List Int} : inD (.int i) (.tup (xs.map .int)) = some (.sh (.bl (decide (i ∈ xs)))) := by
  have h : (flat (.int i) && (xs.map D.int).all flat) = true := by simp [flat]
  simp only [inD, inB, h, if_true, Option.map_some, mem_ints]
theorem inK_tup {ks : List Nat} : InK (.tup (ks.map nI)) (ks.map cI) := fun i => by rw [nI_cI]; exact o_inT
def ar (A : List Ar) (k : Nat) : Ar := A[k]?.getD ⟨0, 0, 0, 0, 0⟩
def sr (A : List Ar) (k : Nat) : Nat := (ar A k).src
theorem ar_at {A : List Ar} {k : Nat} (h : k < A.length) : atI (A.map eA) (k : Int) = some (eA (ar A k)) := by
  rw [atI_map, DL.atI_nat, List.getElem?_eq_getElem h]
  simp [ar, h]
theorem ar_mem {A : List Ar} {k : Nat} (h : k < A.length) : ar A k ∈ A := by simp [ar, h]
def openA (is : List Int) (ev : Int) (a : Ar) : Bool := decide ((a.src : Int) ∈ is) && (decide (a.ev = ev) && (decide (a.gd = -1) || decide (a.gd ∈ is)))
def rdy (A : List Ar) (is : List Int) (ev : Int) : List Nat := (List.range A.length).filter fun k => openA is ev (ar A k)
theorem rdy_lt {A : List Ar} {is : List Int} {ev : Int} {k : Nat} (h : k ∈ rdy A is ev) : k < A.length := by
  simp [rdy] at h
  exact h.1
theorem filter_succ {p : Nat → Bool} {n : Nat} : (List.range (n + 1)).filter p = (List.range n).filter p ++ if p n = true then [n] else [] := by
  rw [List.range_succ, List.filter_append]
  simp [List.filter_cons]
theorem opened_eq {R : List Rm} {A : List Ar} {Kd : D} {is : List Int} (hK : InK Kd is) {ev : Int} (hl : A.length < 100000) : F_opened [eC R (A.map eA), Kd, .int ev] = .ok (.fr ((rdy A is ev).map nI)) := by
  obtain ⟨e', q, j4, j5, rfl⟩ := for_rngQ (ix := 4) (body := L_opened_1) (lo := 0) (n := A.length) (e := [.sh (eC R (A.map eA)), .sh Kd, .sh (.int ev), .ow [], .un, .un])
    (fun i e => ∃ j4 j5, e = [.sh (eC R (A.map eA)), .sh Kd, .sh (.int ev), .ow (((List.range i).filter fun k => openA is ev (ar A k)).map nI), j4, j5])
    (by
      rintro k e hk ⟨j4, j5, rfl⟩ Q hQ
      have at_ := ar_at hk
      obtain ⟨a, ha⟩ : ∃ a, a = ar A k := ⟨_, rfl⟩
      have s := filter_succ (p := fun k => openA is ev (ar A k)) (n := k)
      rw [← ha] at at_ s
      obtain ⟨xs, hxs⟩ : ∃ xs, xs = (List.range k).filter fun k => openA is ev (ar A k) := ⟨_, rfl⟩
      have z : xs.length < 100000 := by
        have : xs.length ≤ k := by rw [hxs]; exact Nat.le_trans (List.length_filter_le ..) (by simp)
        omega
      rw [← hxs] at s ⊢
      have i1 := hK (a.src : Int)
      have i2 := hK a.gd
      by_cases c1 : (a.src : Int) ∈ is
      · by_cases c2 : a.ev = ev
        · by_cases c3 : a.gd = -1
          · rw [if_pos (by simp [openA, c1, c2, c3])] at s
            simp [L_opened_1, eC, lkA, at_, eA, i1, c1, c2, c3, z]
            exact hQ _ ⟨_, _, by rw [s, List.map_append]; rfl⟩
          · by_cases c4 : a.gd ∈ is
            · rw [if_pos (by simp [openA, c1, c2, c4])] at s
              simp [L_opened_1, eC, lkA, at_, eA, i1, i2, c1, c2, c3, c4, z]
              exact hQ _ ⟨_, _, by rw [s, List.map_append]; rfl⟩
            · rw [if_neg (by simp [openA, c3, c4]), List.append_nil] at s
              simp [L_opened_1, eC, lkA, at_, eA, i1, i2, c1, c2, c3, c4]
              exact hQ _ ⟨_, _, by rw [s]; rfl⟩
        · rw [if_neg (by simp [openA, c2]), List.append_nil] at s
          simp [L_opened_1, eC, lkA, at_, eA, i1, c1, c2]
          exact hQ _ ⟨_, _, by rw [s]; rfl⟩
      · rw [if_neg (by simp [openA, c1]), List.append_nil] at s
        simp [L_opened_1, eC, lkA, at_, eA, i1, c1]
        exact hQ _ ⟨_, _, by rw [s]; rfl⟩)
    ⟨_, _, rfl⟩
  have n1 : Near (A.length : Int) := ⟨by omega, by omega⟩
  simp only [eC] at q
  simp [F_opened, B_opened, eC, lkA, n1, q, rdy]
def hid (R : List Rm) (A : List Ar) (rd : List Nat) (k : Nat) : Bool := rd.any fun j => decide (sr A k ∈ (chain R (sr A j)).tail)
def tks (R : List Rm) (A : List Ar) (is : List Int) (ev : Int) : List Nat := (rdy A is ev).filter fun k => !hid R A (rdy A is ev) k
theorem tks_lt {R : List Rm} {A : List Ar} {is : List Int} {ev : Int} {k : Nat} (h : k ∈ tks R A is ev) : k < A.length := by
  simp only [tks, List.mem_filter] at h
  exact rdy_lt h.1
theorem takeable_eq {R : List Rm} (W : WF R) {A : List Ar} (hA : ∀ a ∈ A, GA R a) {Kd : D} {is : List Int} (hK : InK Kd is) {ev : Int} (hl : A.length < 100000) : F_takeable [eC R (A.map eA), Kd, .int ev] = .ok (.fr ((tks R A is ev).map nI)) := by
  have o := opened_eq (R := R) hK (ev := ev) hl
  have hrd : ∀ k ∈ rdy A is ev, k < A.length := fun k h => rdy_lt h
  have hrl : (rdy A is ev).length < 100000 := Nat.lt_of_le_of_lt (List.length_filter_le ..) (by simpa using hl)
  obtain ⟨rd, hd⟩ : ∃ rd, rd = rdy A is ev := ⟨_, rfl⟩
  have hT : tks R A is ev = rd.filter fun k => !hid R A rd k := by rw [hd]; rfl
  rw [hT]
  rw [← hd] at o hrd hrl
  have inner : ∀ k, k < A.length → ∀ f4 j5 j8, ∃ j8', forL 8 L_takeable_2 (rd.map nI) [.sh (eC R (A.map eA)), .sh Kd, .sh (.int ev), .sh (.lst (rd.map nI)), f4, j5, .sh (.int (sr A k)), .sh (.bl false), j8] =
      .ok .nx [.sh (eC R (A.map eA)), .sh Kd, .sh (.int ev), .sh (.lst (rd.map nI)), f4, j5, .sh (.int (sr A k)), .sh (.bl (hid R A rd k)), j8'] := by
    intro k hk f4 j5 j8
    obtain ⟨e', q, j8', rfl⟩ := for_mapQ (ix := 8) (body := L_takeable_2) (f := nI) (xs := rd) (e := [.sh (eC R (A.map eA)), .sh Kd, .sh (.int ev), .sh (.lst (rd.map nI)), f4, j5, .sh (.int (sr A k)), .sh (.bl false), j8])
      (fun l e => ∃ j8', e = [.sh (eC R (A.map eA)), .sh Kd, .sh (.int ev), .sh (.lst (rd.map nI)), f4, j5, .sh (.int (sr A k)), .sh (.bl (hid R A l k)), j8'])
      (by
        rintro l j e hj _ ⟨j8', rfl⟩ Q hQ
        have at_ := ar_at (hrd j hj)
        have gk := hA _ (ar_mem hk)
        have gj := hA _ (ar_mem (hrd j hj))
        have w := within_eq W (A := A.map eA) gj.s gk.s
        have ct := chain_tail W gj.s (j := (ar A k).src)
        have hh : hid R A (l ++ [j]) k = (hid R A l k || decide ((ar A k).src ∈ (chain R (ar A j).src).tail)) := by
          unfold hid
          rw [List.any_append, List.any_cons, List.any_nil, Bool.or_false]
          rfl
        have hs : sr A k = (ar A k).src := rfl
        rw [hs]
        rw [hs, hh] at hQ
        obtain ⟨a, ha⟩ : ∃ a, a = ar A k := ⟨_, rfl⟩
        obtain ⟨b, hb⟩ : ∃ b, b = ar A j := ⟨_, rfl⟩
        rw [← ha, ← hb] at w ct hQ
        rw [← ha]
        rw [← hb] at at_
        simp only [eC, eRs] at w hQ
        have e1 : ((b.src : Int) = a.src) ↔ b.src = a.src := by omega
        by_cases c1 : b.src = a.src
        · have : a.src ∉ (chain R b.src).tail := fun h => (ct.mp h).2 c1.symm
          simp [this] at hQ
          simp [L_takeable_2, eC, eRs, lkA, nI, at_, eA, c1]
          exact hQ _
        · by_cases c2 : a.src ∈ chain R b.src
          · have : a.src ∈ (chain R b.src).tail := ct.mpr ⟨c2, fun h => c1 h.symm⟩
            simp [this] at hQ
            simp [L_takeable_2, eC, eRs, lkA, nI, at_, eA, c1, e1, w, c2]
            exact hQ _
          · have : a.src ∉ (chain R b.src).tail := fun h => c2 (ct.mp h).1
            simp [this] at hQ
            simp [L_takeable_2, eC, eRs, lkA, nI, at_, eA, c1, e1, w, c2]
            exact hQ _)
      ⟨_, rfl⟩
    exact ⟨_, q⟩
  obtain ⟨e', q, j5, j6, j7, j8, rfl⟩ := for_mapQ (ix := 5) (body := L_takeable_1) (f := nI) (xs := rd) (e := [.sh (eC R (A.map eA)), .sh Kd, .sh (.int ev), .sh (.lst (rd.map nI)), .ow [], .un, .un, .un, .un])
    (fun l e => ∃ j5 j6 j7 j8, e = [.sh (eC R (A.map eA)), .sh Kd, .sh (.int ev), .sh (.lst (rd.map nI)), .ow ((l.filter fun k => !hid R A rd k).map nI), j5, j6, j7, j8])
    (by
      rintro l k e hk hlen ⟨j5, j6, j7, j8, rfl⟩ Q hQ
      have at_ := ar_at (hrd k hk)
      have z : (l.filter fun k => !hid R A rd k).length < 100000 := Nat.lt_of_le_of_lt (List.length_filter_le ..) (by omega)
      obtain ⟨xs, hxs⟩ : ∃ xs, xs = l.filter fun k => !hid R A rd k := ⟨_, rfl⟩
      have s : (l ++ [k]).filter (fun k => !hid R A rd k) = xs ++ if hid R A rd k = true then [] else [k] := by
        rw [List.filter_append, ← hxs]
        cases h : hid R A rd k <;> simp [h]
      rw [← hxs] at z ⊢
      obtain ⟨j8', q⟩ := inner k (hrd k hk) (.ow (xs.map nI)) (.sh (.int k)) j8
      have hs : sr A k = (ar A k).src := rfl
      rw [hs] at q
      simp only [eC, eRs] at q
      cases c : hid R A rd k with
      | true =>
        rw [c] at q
        rw [if_pos c, List.append_nil] at s
        simp [L_takeable_1, eC, eRs, lkA, nI, at_, eA]
        simp [q]
        exact hQ _ ⟨_, _, _, _, by rw [s]; rfl⟩
      | false =>
        rw [c] at q
        rw [if_neg (by simp [c])] at s
        simp [L_takeable_1, eC, eRs, lkA, nI, at_, eA]
        simp [q, z]
        exact hQ _ ⟨_, _, _, _, by rw [s, List.map_append]; rfl⟩)
    ⟨_, _, _, _, rfl⟩
  simp only [eC] at q o
  simp [F_takeable, B_takeable, eC, o, q]
end My
set_option Elab.async false
set_option linter.all false
set_option maxRecDepth 100000
set_option maxHeartbeats 4000000
set_option autoImplicit false
noncomputable section
namespace My
open PySem PySem.Spec L2 DL
open PyProof.Rows hiding St
/-! ### the law's takeable -/
theorem any_filter {p : Nat → Bool} : ∀ {xs : List Nat}, xs.any p = !decide (xs.filter p = [])
  | [] => rfl
  | x :: xs => by
    rw [List.any_cons, List.filter_cons]
    cases h : p x with
    | true => simp
    | false => simpa using any_filter (xs := xs)
theorem ltakeable_eq {R : List Rm} (W : WF R) {A : List Ar} (hA : ∀ a ∈ A, GA R a) {Kd : D} {is : List Int} (hK : InK Kd is) {ev : Int} (hl : A.length < 100000) : F__law_takeable [eRs R, .lst (A.map eA), Kd, .int ev] = .ok (.fr ((tks R A is ev).map nI)) := by
  obtain ⟨e', q, j5, j6, rfl⟩ := for_rngQ (ix := 5) (body := L__law_takeable_1) (lo := 0) (n := A.length) (e := [.sh (eRs R), .sh (.lst (A.map eA)), .sh Kd, .sh (.int ev), .ow [], .un, .un, .un, .un, .un])
    (fun i e => ∃ j5 j6, e = [.sh (eRs R), .sh (.lst (A.map eA)), .sh Kd, .sh (.int ev), .ow (((List.range i).filter fun k => openA is ev (ar A k)).map nI), j5, j6, .un, .un, .un])
    (by
      rintro k e hk ⟨j5, j6, rfl⟩ Q hQ
      have at_ := ar_at hk
      obtain ⟨a, ha⟩ : ∃ a, a = ar A k := ⟨_, rfl⟩
      have s := filter_succ (p := fun k => openA is ev (ar A k)) (n := k)
      rw [← ha] at at_ s
      obtain ⟨xs, hxs⟩ : ∃ xs, xs = (List.range k).filter fun k => openA is ev (ar A k) := ⟨_, rfl⟩
      have z : xs.length < 100000 := by
        have : xs.length ≤ k := by rw [hxs]; exact Nat.le_trans (List.length_filter_le ..) (by simp)
        omega
      rw [← hxs] at s ⊢
      have i1 := hK (a.src : Int)
      have i2 := hK a.gd
      by_cases c1 : (a.src : Int) ∈ is
      · by_cases c2 : a.ev = ev
        · by_cases c3 : a.gd = -1
          · rw [if_pos (by simp [openA, c1, c2, c3])] at s
            simp [L__law_takeable_1, at_, eA, i1, c1, c2, c3, z]
            exact hQ _ ⟨_, _, by (rw [s, List.map_append]) <;> rfl⟩
          · by_cases c4 : a.gd ∈ is
            · rw [if_pos (by simp [openA, c1, c2, c4])] at s
              simp [L__law_takeable_1, at_, eA, i1, i2, c1, c2, c3, c4, z]
              exact hQ _ ⟨_, _, by (rw [s, List.map_append]) <;> rfl⟩
            · rw [if_neg (by simp [openA, c3, c4]), List.append_nil] at s
              simp [L__law_takeable_1, at_, eA, i1, i2, c1, c2, c3, c4]
              exact hQ _ ⟨_, _, by (rw [s]) <;> rfl⟩
        · rw [if_neg (by simp [openA, c2]), List.append_nil] at s
          simp [L__law_takeable_1, at_, eA, i1, c1, c2]
          exact hQ _ ⟨_, _, by (rw [s]) <;> rfl⟩
      · rw [if_neg (by simp [openA, c1]), List.append_nil] at s
        simp [L__law_takeable_1, at_, eA, i1, c1]
        exact hQ _ ⟨_, _, by (rw [s]) <;> rfl⟩)
    ⟨_, _, rfl⟩
  have n1 : Near (A.length : Int) := ⟨by omega, by omega⟩
  have hrd : ∀ k ∈ rdy A is ev, k < A.length := fun k h => rdy_lt h
  have hrl : (rdy A is ev).length < 100000 := Nat.lt_of_le_of_lt (List.length_filter_le ..) (by simpa using hl)
  have q : _ = Out.ok Fl.nx [.sh (eRs R), .sh (.lst (A.map eA)), .sh Kd, .sh (.int ev), .ow ((rdy A is ev).map nI), j5, j6, .un, .un, .un] := q
  obtain ⟨rd, hd⟩ : ∃ rd, rd = rdy A is ev := ⟨_, rfl⟩
  have hT : tks R A is ev = rd.filter fun k => !hid R A rd k := by rw [hd]; rfl
  rw [hT]
  rw [← hd] at hrd hrl q
  obtain ⟨e', q2, k5, j6', j8, rfl⟩ := for_mapQ (ix := 5) (body := L__law_takeable_2) (f := nI) (xs := rd) (e := [.sh (eRs R), .sh (.lst (A.map eA)), .sh Kd, .sh (.int ev), .sh (.lst (rd.map nI)), j5, j6, .ow [], .un, .un])
    (fun l e => ∃ j5 j6 j8, e = [.sh (eRs R), .sh (.lst (A.map eA)), .sh Kd, .sh (.int ev), .sh (.lst (rd.map nI)), j5, j6, .ow ((l.filter fun k => !hid R A rd k).map nI), j8, .un])
    (by
      rintro l k e hk hlen ⟨j5, j6, j8, rfl⟩ Q hQ
      have at_ := ar_at (hrd k hk)
      have z : (l.filter fun k => !hid R A rd k).length < 100000 := Nat.lt_of_le_of_lt (List.length_filter_le ..) (by omega)
      obtain ⟨xs, hxs⟩ : ∃ xs, xs = l.filter fun k => !hid R A rd k := ⟨_, rfl⟩
      have s : (l ++ [k]).filter (fun k => !hid R A rd k) = xs ++ if hid R A rd k = true then [] else [k] := by
        rw [List.filter_append, ← hxs]
        cases h : hid R A rd k <;> simp [h]
      rw [← hxs] at z ⊢
      obtain ⟨p, hp⟩ : ∃ p : Nat → Bool, p = fun j => decide ((ar A k).src ∈ (chain R (ar A j).src).tail) := ⟨_, rfl⟩
      have hc : ∀ e : List DL.Slot, e[9]? = some .un → e[0]? = some (.sh (.lst (R.map eR))) → e[1]? = some (.sh (.lst (A.map eA))) → e[5]? = some (.sh (.int k)) →
          compL 9 (asB (op2 inD (op2 idxD (op2 idxD (v 1) (v 5)) (kc (.int 0))) (slcE (callU F__law_chain [(v 0), (op2 idxD (op2 idxD (v 1) (v 9)) (kc (.int 0)))]) (asI (kc (.int 1))) noI))) (v 9) (rd.map nI) [] e = .ok ((rd.filter p).map nI) e := by
        intro e h9 h0 h1 h5
        obtain ⟨hl, _⟩ := List.getElem?_eq_some_iff.mp h9
        have := DL.comp_map (ix := 9) (t := asB (op2 inD (op2 idxD (op2 idxD (v 1) (v 5)) (kc (.int 0))) (slcE (callU F__law_chain [(v 0), (op2 idxD (op2 idxD (v 1) (v 9)) (kc (.int 0)))]) (asI (kc (.int 1))) noI))) (f := v 9) (e := e) (g := nI) (g' := nI) (p := p) (w := fun j => j) (xs := rd) hrl
          (fun j hj => by
            have at2 := ar_at (hrd j hj)
            have gj := hA _ (ar_mem (hrd j hj))
            have c1 := lchain_eq W gj.s
            obtain ⟨T, hT⟩ : ∃ T, T = (chain R (ar A j).src).tail := ⟨_, rfl⟩
            have d1 : slcD (some 1) none (.lst ((chain R (ar A j).src).map nI)) = some (.fr (T.map nI)) := by rw [slc1, ← List.map_tail, hT]
            have m1 := in_nI (k := (ar A k).src) (T := T)
            simp only [eRs] at c1
            rw [hp]
            dsimp only
            rw [← hT]
            simp [hl, h0, h1, h5, nI, at2, at_, eA, c1, d1, m1])
          (fun j _ _ => ⟨.sh (nI j), by simp [nI, hl], rfl⟩) h9
        simpa using this
      have hh : hid R A rd k = !decide (rd.filter p = []) := by
        rw [hp]
        exact any_filter
      have o1 : eqD (.lst ((rd.filter p).map nI)) (.lst []) = some (.sh (.bl (!hid R A rd k))) := by
        rw [o_eqD ok_nI ok_nil, hh]
        simp
      cases c : hid R A rd k with
      | true =>
        rw [c] at o1
        rw [if_pos c, List.append_nil] at s
        simp [L__law_takeable_2, nI, eRs]
        simp [hc, o1]
        exact hQ _ ⟨_, _, _, by (rw [s]) <;> rfl⟩
      | false =>
        rw [c] at o1
        rw [if_neg (by simp [c])] at s
        simp [L__law_takeable_2, nI, eRs]
        simp [hc, o1, z]
        exact hQ _ ⟨_, _, _, by (rw [s, List.map_append]) <;> rfl⟩)
    ⟨_, _, _, rfl⟩
  simp only [eRs] at q q2
  simp [F__law_takeable, B__law_takeable, eRs, n1, q, q2]
end My
set_option Elab.async false
set_option linter.all false
set_option maxRecDepth 100000
set_option maxHeartbeats 4000000
set_option autoImplicit false
noncomputable section
namespace My
open PySem PySem.Spec L2 DL
open PyProof.Rows hiding St
/-! ### chains are lines -/
theorem chain_suf {R : List Rm} (W : WF R) : ∀ {t : Nat}, t < R.length → ∀ {k : Nat}, k ∈ chain R t → ∃ l, chain R t = l ++ chain R k := by
  intro t
  induction t using Nat.strongRecOn with
  | ind t ih =>
    intro ht k hk
    by_cases h0 : 0 < t
    · obtain ⟨h1, h2⟩ := W.hk t h0 ht
      have cs := chain_s W h0 ht
      rw [cs] at hk
      rcases List.mem_cons.mp hk with rfl | hk
      · exact ⟨[], rfl⟩
      · obtain ⟨l, hl⟩ := ih _ (by omega) (by omega) hk
        exact ⟨t :: l, by rw [cs, hl]; rfl⟩
    · have : t = 0 := by omega
      subst this
      rw [chain_0] at hk
      simp at hk
      subst hk
      exact ⟨[], rfl⟩
theorem chain_mem_lt {R : List Rm} (W : WF R) {t k : Nat} (ht : t < R.length) (hk : k ∈ chain R t) : k < R.length := by
  have := chain_le W ht hk
  omega
theorem chain_trans {R : List Rm} (W : WF R) {t k j : Nat} (ht : t < R.length) (hk : k ∈ chain R t) (hj : j ∈ chain R k) : j ∈ chain R t := by
  obtain ⟨l, hl⟩ := chain_suf W ht hk
  rw [hl]
  exact List.mem_append_right _ hj
theorem chain_lin {R : List Rm} (W : WF R) {t k j : Nat} (ht : t < R.length) (hk : k ∈ chain R t) (hj : j ∈ chain R t) (h : j ≤ k) : j ∈ chain R k := by
  have hkl := chain_mem_lt W ht hk
  obtain ⟨l, hl⟩ := chain_suf W ht hk
  have srt := chain_sorted W ht
  rw [hl] at hj srt
  rcases List.mem_append.mp hj with hj | hj
  · have := (List.pairwise_append.mp srt).2.2 j hj k (chain_self W hkl)
    omega
  · exact hj
theorem scp_in {R : List Rm} (W : WF R) {s t m : Nat} (hs : s < R.length) (ht : t < R.length) (h : scp R s t = some m) : ok2 (knd R m) = true ∧ m ∈ (chain R s).tail ∧ m ∈ (chain R t).tail := by
  have := (lastOf_lt h).2
  simp only [inScope, Bool.and_eq_true, decide_eq_true_eq] at this
  obtain ⟨a, b, c, d, e⟩ := this
  exact ⟨a, (chain_tail W hs).mpr ⟨d, b⟩, (chain_tail W ht).mpr ⟨e, c⟩⟩
theorem scA_in {R : List Rm} (W : WF R) {a : Ar} (g : GA R a) : ok2 (knd R (scA R a)) = true ∧ scA R a ∈ (chain R a.src).tail ∧ scA R a ∈ (chain R a.tgt).tail := scp_in W g.s g.t (scA_eq g)
/-- the part of t's chain ahead of m -/
def pre (R : List Rm) (t m : Nat) : List Nat := (chain R t).take ((chain R t).idxOf m)
theorem pre_split {R : List Rm} (W : WF R) {t m : Nat} (ht : t < R.length) (hm : m ∈ chain R t) : ∃ S, chain R t = pre R t m ++ m :: S := by
  obtain ⟨P, S, e⟩ := List.append_of_mem hm
  have srt := chain_sorted W ht
  rw [e] at srt
  have hP : m ∉ P := fun h => by
    have := (List.pairwise_append.mp srt).2.2 m h m (List.mem_cons_self ..)
    omega
  have hi : (P ++ m :: S).idxOf m = P.length := by
    rw [List.idxOf_append]
    rw [if_neg hP]
    simp
  have : pre R t m = P := by
    unfold pre
    rw [e, hi]
    simp
  exact ⟨S, by rw [this, e]⟩
theorem pre_mem {R : List Rm} (W : WF R) {t m k : Nat} (ht : t < R.length) (hm : m ∈ chain R t) : k ∈ pre R t m ↔ k ∈ chain R t ∧ m ∈ (chain R k).tail := by
  obtain ⟨S, hS⟩ := pre_split W ht hm
  have srt := chain_sorted W ht
  rw [hS] at srt
  have s1 := List.pairwise_append.mp srt
  constructor
  · intro h
    have hk : k ∈ chain R t := by rw [hS]; exact List.mem_append_left _ h
    have := s1.2.2 k h m (List.mem_cons_self ..)
    exact ⟨hk, (chain_tail W (chain_mem_lt W ht hk)).mpr ⟨chain_lin W ht hk hm (by omega), by omega⟩⟩
  · rintro ⟨hk, h⟩
    have lt := chain_lt W (chain_mem_lt W ht hk) h
    rw [hS] at hk
    rcases List.mem_append.mp hk with hk | hk
    · exact hk
    · rcases List.mem_cons.mp hk with rfl | hk
      · omega
      · have := (List.pairwise_cons.mp s1.2.1).1 k hk
        omega
theorem first_nI {m : Nat} : ∀ {ks : List Nat}, m ∈ ks → firstIx (.int m) (ks.map nI) = some (ks.idxOf m)
  | [], h => by cases h
  | k :: ks, h => by
    rw [List.map_cons]
    unfold firstIx
    rw [List.idxOf_cons]
    by_cases e : k = m
    · subst e
      simp [nI]
    · have : ¬ (nI k = D.int m) := by simp [nI]; omega
      rw [if_neg this, first_nI (by simpa [Ne.symm e] using h)]
      have : (k == m) = false := by simp [e]
      simp [this]
/-! ### the law's choice behind an arrow -/
def up (z : Nat → Int) (i : Nat) (x : Int) : Nat → Int := fun j => if j = i then x else z j
theorem zL_set {R : List Rm} {z : Nat → Int} {i : Nat} {x : Int} : ((zL R z).map D.int).set i (.int x) = (zL R (up z i x)).map D.int := by
  apply List.ext_getElem?
  intro j
  rw [List.getElem?_set]
  by_cases h : i = j
  · subst h
    by_cases hl : i < R.length
    · simp [zL, up, hl]
    · simp [zL, up, hl]
  · by_cases hl : j < R.length
    · simp [zL, up, h, Ne.symm h, hl]
    · simp [zL, up, h, hl]
theorem zL_len {R : List Rm} {z : Nat → Int} : (zL R z).length = R.length := by simp [zL]
theorem zL_congr {R : List Rm} {z z' : Nat → Int} (h : ∀ k, k < R.length → z k = z' k) : zL R z = zL R z' := by
  unfold zL
  exact List.map_congr_left fun k hk => h k (List.mem_range.mp hk)
def g1 (R : List Rm) (m : Nat) (z : Nat → Int) (k : Nat) : Int := if knd R k = "one" ∧ m ∈ (chain R k).tail then fz R k else z k
def updL (R : List Rm) (l : List Nat) (z : Nat → Int) : Nat → Int := l.foldl (fun z k => if knd R (hol R k).toNat = "all" then z else up z (hol R k).toNat k) z
def gz (R : List Rm) (a : Ar) (z : Nat → Int) : Nat → Int := updL R (pre R a.tgt (scA R a)) (g1 R (scA R a) z)
theorem lgone_eq {R : List Rm} (W : WF R) {z : Nat → Int} {a : Ar} (g : GA R a) : F__law_gone [eRs R, .lst ((zL R z).map .int), eA a] = .ok (.fr ((zL R (gz R a z)).map .int)) := by
  have n1 := W.n1
  have n2 := W.n2
  have sc := lscope_eq W g.s g.t
  rw [scA_eq g] at sc
  obtain ⟨m, hm⟩ : ∃ m, m = scA R a := ⟨_, rfl⟩
  obtain ⟨o1, o2, o3⟩ := scA_in W g
  rw [← hm] at sc o1 o2 o3
  have f1 := lfirst_eq W
  have hml : m < R.length := by have := chain_lt W g.t o3; have := g.t; omega
  have hmc : m ∈ chain R a.tgt := List.mem_of_mem_tail o3
  have ct := lchain_eq W g.t
  obtain ⟨A, hA⟩ : ∃ A, A = eA a := ⟨_, rfl⟩
  obtain ⟨Z, hZ⟩ : ∃ Z, Z = zL R z := ⟨_, rfl⟩
  obtain ⟨e', q, j6, rfl⟩ := for_rngQ (ix := 6) (body := L__law_gone_1) (lo := 0) (n := R.length) (e := [.sh (eRs R), .sh (.lst (Z.map .int)), .sh A, .sh (.int m), .sh (.lst ((zL R (fz R)).map .int)), .ow ((zL R z).map .int), .un, .un])
    (fun i e => ∃ j6, e = [.sh (eRs R), .sh (.lst (Z.map .int)), .sh A, .sh (.int m), .sh (.lst ((zL R (fz R)).map .int)), .ow ((zL R fun k => if k < i then g1 R m z k else z k).map .int), j6, .un])
    (by
      rintro k e hk ⟨j6, rfl⟩ Q hQ
      have r1 := rm_atI hk
      have c1 := lchain_eq W hk
      obtain ⟨T, hT⟩ : ∃ T, T = (chain R k).tail := ⟨_, rfl⟩
      have d1 : slcD (some 1) none (.lst ((chain R k).map nI)) = some (.fr (T.map nI)) := by rw [slc1, ← List.map_tail, hT]
      have m1 := in_nI (k := m) (T := T)
      have z1 := zL_at (z := fz R) hk
      have ix : ixN (zL R fun k' => if k' < k then g1 R m z k' else z k').length (k : Int) = some k := ixN_nat (by rw [zL_len]; exact hk)
      obtain ⟨Y, hY⟩ : ∃ Y, Y = zL R fun k' => if k' < k then g1 R m z k' else z k' := ⟨_, rfl⟩
      obtain ⟨Fz, hF⟩ : ∃ Fz, Fz = zL R (fz R) := ⟨_, rfl⟩
      rw [← hY] at ix ⊢
      rw [← hF] at z1 hQ ⊢
      simp only [eRs] at c1 hQ ⊢
      have same : g1 R m z k = z k → (zL R fun k' => if k' < k + 1 then g1 R m z k' else z k') = Y := fun h => by
        rw [hY]
        refine zL_congr fun k' _ => ?_
        by_cases e1 : k' < k
        · rw [if_pos e1, if_pos (by omega)]
        · by_cases e2 : k' = k
          · subst e2; rw [if_pos (by omega), if_neg (by omega), h]
          · rw [if_neg (by omega), if_neg (by omega)]
      by_cases h1 : knd R k = "one"
      · by_cases h2 : m ∈ T
        · have hg : g1 R m z k = fz R k := by rw [g1, if_pos ⟨h1, by rw [← hT]; exact h2⟩]
          have st : (Y.map D.int).set k (.int (fz R k)) = (zL R fun k' => if k' < k + 1 then g1 R m z k' else z k').map D.int := by
            rw [hY, zL_set]
            congr 1
            refine zL_congr fun k' _ => ?_
            show (if k' = k then fz R k else (if k' < k then g1 R m z k' else z k')) = _
            by_cases e2 : k' = k
            · subst e2; rw [if_pos rfl, if_pos (by omega), hg]
            · by_cases e1 : k' < k
              · rw [if_neg e2, if_pos e1, if_pos (by omega)]
              · rw [if_neg e2, if_neg e1, if_neg (by omega)]
          simp [L__law_gone_1, r1, c1, d1, m1, h1, h2, z1, ix]
          exact hQ _ ⟨_, by rw [st]⟩
        · have hg : g1 R m z k = z k := by rw [g1, if_neg (by rw [← hT]; exact fun h => h2 h.2)]
          simp [L__law_gone_1, r1, c1, d1, m1, h1, h2]
          exact hQ _ ⟨_, by rw [same hg]⟩
      · have hg : g1 R m z k = z k := by rw [g1, if_neg fun h => h1 h.1]
        simp [L__law_gone_1, r1, h1]
        exact hQ _ ⟨_, by rw [same hg]⟩)
    ⟨.un, by simp⟩
  have e1 : (zL R fun k => if k < R.length then g1 R m z k else z k) = zL R (g1 R m z) := zL_congr fun k hk => by rw [if_pos hk]
  rw [e1] at q
  obtain ⟨C, hC⟩ : ∃ C, C = D.lst ((chain R a.tgt).map nI) := ⟨_, rfl⟩
  obtain ⟨e', q2, j6', rfl⟩ := for_mapQ (ix := 6) (body := L__law_gone_2) (f := nI) (xs := pre R a.tgt m) (e := [.sh (eRs R), .sh (.lst (Z.map .int)), .sh A, .sh (.int m), .sh (.lst ((zL R (fz R)).map .int)), .ow ((zL R (g1 R m z)).map .int), j6, .sh C])
    (fun l e => ∃ j6, e = [.sh (eRs R), .sh (.lst (Z.map .int)), .sh A, .sh (.int m), .sh (.lst ((zL R (fz R)).map .int)), .ow ((zL R (updL R l (g1 R m z))).map .int), j6, .sh C])
    (by
      rintro l k e hk _ ⟨j6, rfl⟩ Q hQ
      obtain ⟨k1, k2⟩ := (pre_mem W g.t hmc).mp hk
      have hkl := chain_mem_lt W g.t k1
      have k3 := chain_lt W hkl k2
      obtain ⟨h, hh⟩ : ∃ h : Nat, (h : Int) = hol R k := ⟨(hol R k).toNat, by have := W.hk k (by omega) hkl; omega⟩
      have hhl : h < R.length := by have := W.hk k (by omega) hkl; omega
      have r1 := rm_atI hkl
      rw [← hh] at r1
      have r2 := rm_atI hhl
      have u1 : updL R (l ++ [k]) (g1 R m z) = if knd R h = "all" then updL R l (g1 R m z) else up (updL R l (g1 R m z)) h k := by
        unfold updL
        rw [List.foldl_append]
        simp only [List.foldl_cons, List.foldl_nil, ← hh, Int.toNat_natCast]
      have st := zL_set (R := R) (z := updL R l (g1 R m z)) (i := h) (x := (k : Int))
      have ix : ixN (zL R (updL R l (g1 R m z))).length (h : Int) = some h := ixN_nat (by rw [zL_len]; exact hhl)
      obtain ⟨Y, hY⟩ : ∃ Y, Y = zL R (updL R l (g1 R m z)) := ⟨_, rfl⟩
      obtain ⟨Fz, hF⟩ : ∃ Fz, Fz = zL R (fz R) := ⟨_, rfl⟩
      rw [u1] at hQ
      rw [← hY] at ix st ⊢
      rw [← hF] at hQ ⊢
      simp only [eRs] at hQ ⊢
      by_cases h1 : knd R h = "all"
      · rw [if_pos h1, ← hY] at hQ
        simp [L__law_gone_2, nI, r1, r2, h1]
        exact hQ _ ⟨_, rfl⟩
      · rw [if_neg h1, ← st] at hQ
        simp [L__law_gone_2, nI, r1, r2, h1, ix]
        exact hQ _ ⟨_, rfl⟩)
    ⟨_, rfl⟩
  have ii : indexD (.lst ((chain R a.tgt).map nI)) [.int m] = some (.sh (.int ((chain R a.tgt).idxOf m : Nat))) := by
    show (if _ then _ else _) = _
    rw [if_pos (by rw [ok_nI, show (D.int (m : Int)).ok = true from by simp [D.ok, D.pur, D.dep]]; rfl), first_nI hmc]
    rfl
  have sl : slcD none (some ((chain R a.tgt).idxOf m : Nat)) (.lst ((chain R a.tgt).map nI)) = some (.fr ((pre R a.tgt m).map nI)) := by
    rw [slc_take (by rw [List.length_map]; exact List.idxOf_le_length)]
    unfold pre
    rw [List.map_take]
  have gg : gz R a z = updL R (pre R a.tgt m) (g1 R m z) := by unfold gz; rw [← hm]
  rw [gg]
  obtain ⟨ix, hix⟩ : ∃ ix, ix = (chain R a.tgt).idxOf m := ⟨_, rfl⟩
  rw [← hix] at ii sl
  have nn : Near (R.length : Int) := near_nat (by omega)
  obtain ⟨Y, hY⟩ : ∃ Y, Y = zL R (updL R (pre R a.tgt m) (g1 R m z)) := ⟨_, rfl⟩
  obtain ⟨Y1, hY1⟩ : ∃ Y, Y = zL R (g1 R m z) := ⟨_, rfl⟩
  obtain ⟨Fz, hF⟩ : ∃ Fz, Fz = zL R (fz R) := ⟨_, rfl⟩
  rw [← hZ] at q ⊢
  rw [← hY] at q2 ⊢
  rw [← hY1] at q q2
  rw [← hF] at q q2 f1
  subst hA
  simp only [eRs, eO] at q q2 f1 sc ct
  rw [hC] at q2
  simp only [eA] at q q2 ⊢
  simp [F__law_gone, B__law_gone, eRs, sc, f1, nn, q, ct, ii, sl, q2]
def bz (R : List Rm) (A : List Ar) (ns : List Nat) (z : Nat → Int) : Nat → Int := ns.foldl (fun z k => gz R (ar A k) z) z
theorem lbehind_eq {R : List Rm} (W : WF R) {A : List Ar} (hA : ∀ a ∈ A, GA R a) {z : Nat → Int} {ns : List Nat} (hn : ∀ k ∈ ns, k < A.length) :
    F__law_behind [eRs R, .lst (A.map eA), .lst ((zL R z).map .int), .lst (ns.map nI)] = .ok (.sh (.lst ((zL R (bz R A ns z)).map .int))) := by
  obtain ⟨e', q, j4, rfl⟩ := for_mapQ (ix := 4) (body := L__law_behind_1) (f := nI) (xs := ns) (e := [.sh (eRs R), .sh (.lst (A.map eA)), .sh (.lst ((zL R z).map .int)), .sh (.lst (ns.map nI)), .un])
    (fun l e => ∃ j4, e = [.sh (eRs R), .sh (.lst (A.map eA)), .sh (.lst ((zL R (bz R A l z)).map .int)), .sh (.lst (ns.map nI)), j4])
    (by
      rintro l k e hk _ ⟨j4, rfl⟩ Q hQ
      have at_ := ar_at (hn k hk)
      have gk := hA _ (ar_mem (hn k hk))
      have g := lgone_eq W (z := bz R A l z) gk
      have u : bz R A (l ++ [k]) z = gz R (ar A k) (bz R A l z) := by unfold bz; rw [List.foldl_append]; rfl
      rw [u] at hQ
      obtain ⟨Y, hY⟩ : ∃ Y, Y = zL R (bz R A l z) := ⟨_, rfl⟩
      obtain ⟨Y1, hY1⟩ : ∃ Y, Y = zL R (gz R (ar A k) (bz R A l z)) := ⟨_, rfl⟩
      rw [← hY] at g ⊢
      rw [← hY1] at g hQ
      simp [L__law_behind_1, nI, at_, g]
      exact hQ _ ⟨_, rfl⟩)
    ⟨_, rfl⟩
  obtain ⟨Y, hY⟩ : ∃ Y, Y = zL R (bz R A ns z) := ⟨_, rfl⟩
  obtain ⟨Z, hZ⟩ : ∃ Z, Z = zL R z := ⟨_, rfl⟩
  rw [← hY, ← hZ] at q
  rw [← hY, ← hZ]
  simp [F__law_behind, B__law_behind, q]
theorem up_cho {R : List Rm} {z : Nat → Int} {i : Nat} {x : Nat} (C : Cho R z) (hx : x ∈ kids R i) (ho : ok2 (knd R i) = true) : Cho R (up z i x) := ⟨fun k hk o => by
  unfold up
  by_cases e : k = i
  · subst e; exact ⟨x, hx, by rw [if_pos rfl]⟩
  · rw [if_neg e]; exact C.two k hk o, fun k hk o => by
  unfold up
  by_cases e : k = i
  · subst e; rw [ho] at o; cases o
  · rw [if_neg e]; exact C.els k hk o⟩
theorem knd_of_kid {R : List Rm} (W : WF R) {k j : Nat} (hk : k < R.length) (hj : j ∈ kids R k) (h : knd R k ≠ "all") : ok2 (knd R k) = true := by
  rcases W.kd k hk with e | e | e | e
  · exact absurd (mem_kids.mp hj).2 ((W.pl k hk).mp e j (mem_kids.mp hj).1)
  · rw [e]; decide
  · exact absurd e h
  · rw [e]; decide
theorem g1_cho {R : List Rm} (W : WF R) {z : Nat → Int} {m : Nat} (C : Cho R z) : Cho R (g1 R m z) := ⟨fun k hk o => by
  unfold g1
  split
  · exact (fz_cho W).two k hk o
  · exact C.two k hk o, fun k hk o => by
  unfold g1
  split
  · exact (fz_cho W).els k hk o
  · exact C.els k hk o⟩
theorem updL_cho {R : List Rm} (W : WF R) : ∀ (l : List Nat) (z : Nat → Int), Cho R z → (∀ k ∈ l, 0 < k ∧ k < R.length) → Cho R (updL R l z)
  | [], _, C, _ => C
  | k :: l, z, C, h => by
    unfold updL
    rw [List.foldl_cons]
    obtain ⟨k1, k2⟩ := h k (List.mem_cons_self ..)
    obtain ⟨h1, h2⟩ := W.hk k k1 k2
    refine updL_cho W l _ ?_ fun j hj => h j (List.mem_cons_of_mem _ hj)
    split
    · exact C
    · rename_i hne
      have hm : k ∈ kids R (hol R k).toNat := mem_kids.mpr ⟨k2, by omega⟩
      exact up_cho C hm (knd_of_kid W (by omega) hm hne)
theorem gz_cho {R : List Rm} (W : WF R) {z : Nat → Int} {a : Ar} (g : GA R a) (C : Cho R z) : Cho R (gz R a z) := by
  obtain ⟨o1, o2, o3⟩ := scA_in W g
  refine updL_cho W _ _ (g1_cho W C) fun k hk => ?_
  obtain ⟨k1, k2⟩ := (pre_mem W g.t (List.mem_of_mem_tail o3)).mp hk
  have hkl := chain_mem_lt W g.t k1
  have := chain_lt W hkl k2
  exact ⟨by omega, hkl⟩
theorem bz_cho {R : List Rm} (W : WF R) {A : List Ar} (hA : ∀ a ∈ A, GA R a) : ∀ (ns : List Nat) (z : Nat → Int), (∀ k ∈ ns, k < A.length) → Cho R z → Cho R (bz R A ns z)
  | [], _, _, C => C
  | k :: l, z, h, C => by
    unfold bz
    rw [List.foldl_cons]
    exact bz_cho W hA l _ (fun j hj => h j (List.mem_cons_of_mem _ hj)) (gz_cho W (hA _ (ar_mem (h k (List.mem_cons_self ..)))) C)
end My
set_option Elab.async false
set_option linter.all false
set_option maxRecDepth 100000
set_option maxHeartbeats 4000000
set_option autoImplicit false
noncomputable section
namespace My
open PySem PySem.Spec L2 DL
open PyProof.Rows hiding St
/-! ### walked by the law -/
theorem asc_lt {R : List Rm} {c : Nat → Nat} {k : Nat} (h : k ∈ asc R c) : k < R.length := by
  simp [asc] at h
  exact h.1
theorem lwalked_eq {R : List Rm} (W : WF R) {A : List Ar} (hA : ∀ a ∈ A, GA R a) (hl : A.length < 100000) {evs : List Int} :
    ∃ z, Cho R z ∧ F__law_walked [eRs R, .lst (A.map eA), .lst (evs.map .int)] = .ok (.sh (.lst ((zL R z).map .int))) := by
  have f1 := lfirst_eq W
  obtain ⟨e', q, z, j4, j5, C, rfl⟩ := for_mapQ (ix := 4) (body := L__law_walked_1) (f := D.int) (xs := evs) (e := [.sh (eRs R), .sh (.lst (A.map eA)), .sh (.lst (evs.map .int)), .sh (.lst ((zL R (fz R)).map .int)), .un, .un])
    (fun l e => ∃ z j4 j5, Cho R z ∧ e = [.sh (eRs R), .sh (.lst (A.map eA)), .sh (.lst (evs.map .int)), .sh (.lst ((zL R z).map .int)), j4, j5])
    (by
      rintro l ev e _ _ ⟨z, j4, j5, C, rfl⟩ Q hQ
      have k1 := lkept_eq W C
      have t1 := ltakeable_eq W hA (inK_lst (ks := asc R (zN z))) (ev := ev) hl
      obtain ⟨T, hT⟩ : ∃ T, T = tks R A ((asc R (zN z)).map cI) ev := ⟨_, rfl⟩
      have hn : ∀ k ∈ T, k < A.length := fun k h => tks_lt (by rw [hT] at h; exact h)
      rw [← hT] at t1
      have p1 := lpair_eq W hA hn
      have b1 := lbehind_eq W hA (z := z) hn
      have C2 := bz_cho W hA T z hn C
      have hQ0 := fun j4 j5 => hQ [.sh (eRs R), .sh (.lst (A.map eA)), .sh (.lst (evs.map .int)), .sh (.lst ((zL R z).map .int)), j4, j5] ⟨z, _, _, C, rfl⟩
      have hQ1 := fun j4 j5 => hQ [.sh (eRs R), .sh (.lst (A.map eA)), .sh (.lst (evs.map .int)), .sh (.lst ((zL R (bz R A T z)).map .int)), j4, j5] ⟨_, _, _, C2, rfl⟩
      obtain ⟨Y, hY⟩ : ∃ Y, Y = zL R z := ⟨_, rfl⟩
      obtain ⟨Y2, hY2⟩ : ∃ Y, Y = zL R (bz R A T z) := ⟨_, rfl⟩
      obtain ⟨K, hK⟩ : ∃ K, K = (asc R (zN z)) := ⟨_, rfl⟩
      rw [← hY] at k1 b1 hQ0 ⊢
      rw [← hY2] at b1 hQ1
      rw [← hK] at k1 t1
      simp only [eRs] at k1 t1 p1 b1 hQ0 hQ1 ⊢
      cases hp : pairOf R A T with
      | none =>
        rw [hp] at p1
        simp only [outP] at p1
        simp [L__law_walked_1, k1, t1, p1, b1]
        exact hQ1 _ _
      | some zz =>
        obtain ⟨k, j, rfl⟩ := pairOf_sh hp
        rw [hp] at p1
        simp only [outP] at p1
        simp [L__law_walked_1, k1, t1, p1, isND]
        exact hQ0 _ _)
    ⟨_, _, _, fz_cho W, rfl⟩
  refine ⟨z, C, ?_⟩
  obtain ⟨Y, hY⟩ : ∃ Y, Y = zL R z := ⟨_, rfl⟩
  obtain ⟨Fz, hF⟩ : ∃ Fz, Fz = zL R (fz R) := ⟨_, rfl⟩
  rw [← hY] at q ⊢
  rw [← hF] at q f1
  simp only [eRs] at q f1
  simp [F__law_walked, B__law_walked, eRs, f1, q]
end My
set_option Elab.async false
set_option linter.all false
set_option maxRecDepth 100000
set_option maxHeartbeats 4000000
set_option autoImplicit false
noncomputable section
namespace My
open PySem PySem.Spec L2 DL
open PyProof.Rows hiding St
/-! ### what is kept behind an arrow -/
theorem tail_hol {R : List Rm} (W : WF R) {k : Nat} (h0 : 0 < k) (hk : k < R.length) : (chain R k).tail = chain R (hol R k).toNat := by rw [chain_s W h0 hk]; rfl
theorem hol_lt {R : List Rm} (W : WF R) {k : Nat} (h0 : 0 < k) (hk : k < R.length) : (hol R k).toNat < k := by
  have := W.hk k h0 hk
  omega
theorem hol_tail {R : List Rm} (W : WF R) {k : Nat} (h0 : 0 < k) (hk : k < R.length) : (hol R k).toNat ∈ (chain R k).tail := by
  rw [tail_hol W h0 hk]
  exact chain_self W (by have := hol_lt W h0 hk; omega)
theorem reach_agree {R : List Rm} (W : WF R) {c c' : Nat → Nat} {r : Nat} : ∀ {k : Nat}, k < R.length → (∀ j ∈ (chain R k).tail, c j = c' j) → reach R c r k = reach R c' r k := by
  intro k
  induction k using Nat.strongRecOn with
  | ind k ih =>
    intro hk h
    rw [Bool.eq_iff_iff, reach_iff W hk, reach_iff W hk]
    by_cases h0 : 0 < k
    · have hl := hol_lt W h0 hk
      have e1 := ih _ hl (by omega) fun j hj => h j (by rw [tail_hol W h0 hk]; exact List.mem_of_mem_tail hj)
      have e2 : op R c k = op R c' k := by
        unfold op
        rw [h _ (hol_tail W h0 hk)]
      rw [e1, e2]
    · simp [h0]
theorem reach_mem {R : List Rm} (W : WF R) {c : Nat → Nat} {r : Nat} : ∀ {k : Nat}, k < R.length → reach R c r k = true → r ∈ chain R k := by
  intro k
  induction k using Nat.strongRecOn with
  | ind k ih =>
    intro hk h
    rcases (reach_iff W hk).mp h with rfl | ⟨h0, h1, _⟩
    · exact chain_self W hk
    · have hl := hol_lt W h0 hk
      rw [chain_s W h0 hk]
      exact List.mem_cons_of_mem _ (ih _ hl (by omega) h1)
theorem reach_self {R : List Rm} (W : WF R) {c : Nat → Nat} {k : Nat} (hk : k < R.length) : reach R c k k = true := (reach_iff W hk).mpr (.inl rfl)
theorem reach_split {R : List Rm} (W : WF R) {c : Nat → Nat} {r m : Nat} (hrm : r ≤ m) : ∀ {k : Nat}, k < R.length → m ∈ chain R k → (reach R c r k = true ↔ reach R c r m = true ∧ reach R c m k = true) := by
  intro k
  induction k using Nat.strongRecOn with
  | ind k ih =>
    intro hk hm
    by_cases e : k = m
    · subst e
      exact ⟨fun h => ⟨h, reach_self W hk⟩, fun h => h.1⟩
    · have hmt : m ∈ (chain R k).tail := (chain_tail W hk).mpr ⟨hm, fun q => e q.symm⟩
      have lt := chain_lt W hk hmt
      have h0 : 0 < k := by omega
      have hl := hol_lt W h0 hk
      rw [tail_hol W h0 hk] at hmt
      have := ih _ hl (by omega) hmt
      rw [reach_iff W hk (r := r), reach_iff W hk (r := m), this]
      constructor
      · rintro (h | ⟨a, ⟨b, c⟩, d⟩)
        · omega
        · exact ⟨b, .inr ⟨a, c, d⟩⟩
      · rintro ⟨a, h | ⟨b, c, d⟩⟩
        · omega
        · exact .inr ⟨b, ⟨a, c⟩, d⟩
theorem ok2_not_all {s : Str} (h : ok2 s = true) : s ≠ "all" := by
  rintro rfl
  exact absurd h (by decide)
theorem op_at {R : List Rm} {c : Nat → Nat} {k h : Nat} (hh : hol R k = (h : Int)) (ho : ok2 (knd R h) = true) : op R c k = decide (c h = k) := by
  unfold op
  rw [hh, Int.toNat_natCast, ho]
  simp [ok2_not_all ho]
theorem reach_down {R : List Rm} (W : WF R) {c : Nat → Nat} {m : Nat} (hm : m < R.length) (ho : ok2 (knd R m) = true) (hc : c m ∈ kids R m) : ∀ {k : Nat}, k < R.length → (reach R c m k = true ↔ k = m ∨ reach R c (c m) k = true) := by
  intro k
  have hcm := mem_kids.mp hc
  induction k using Nat.strongRecOn with
  | ind k ih =>
    intro hk
    rw [reach_iff W hk (r := m), reach_iff W hk (r := c m)]
    by_cases h0 : 0 < k
    · have hl := hol_lt W h0 hk
      have := ih _ hl (by omega)
      rw [this]
      have hkk := W.hk k h0 hk
      constructor
      · rintro (h | ⟨a, b | b, d⟩)
        · exact .inl h
        · rw [op_at (h := m) (by omega) ho] at d
          simp at d
          exact .inr (.inl d.symm)
        · exact .inr (.inr ⟨a, b, d⟩)
      · rintro (h | h | ⟨a, b, d⟩)
        · exact .inl h
        · refine .inr ⟨h0, .inl ?_, ?_⟩
          · have := hcm.2
            rw [← h] at this
            omega
          · have := hcm.2
            rw [← h] at this
            rw [op_at this ho]
            simp [h]
        · exact .inr ⟨a, .inr b, d⟩
    · have hkp := kids_pos W hc
      simp [h0]
      omega
theorem reach_congr2 {R : List Rm} (W : WF R) {c c' : Nat → Nat} {r : Nat} (h : ∀ j, j < R.length → r ∈ chain R j → ok2 (knd R j) = true → c j = c' j) : ∀ {k : Nat}, k < R.length → reach R c r k = reach R c' r k := by
  intro k
  induction k using Nat.strongRecOn with
  | ind k ih =>
    intro hk
    rw [Bool.eq_iff_iff, reach_iff W hk, reach_iff W hk]
    by_cases h0 : 0 < k
    · have hl := hol_lt W h0 hk
      rw [ih _ hl (by omega)]
      have : reach R c' r (hol R k).toNat = true → op R c k = op R c' k := fun q => by
        unfold op
        by_cases ho : ok2 (knd R (hol R k).toNat) = true
        · rw [h _ (by omega) (reach_mem W (by omega) q) ho]
        · simp [ho]
      constructor
      · rintro (a | ⟨a, b, d⟩)
        · exact .inl a
        · exact .inr ⟨a, b, (this b) ▸ d⟩
      · rintro (a | ⟨a, b, d⟩)
        · exact .inl a
        · exact .inr ⟨a, b, (this b).symm ▸ d⟩
    · simp [h0]
/-! towards a goal -/
theorem kid_uniq {R : List Rm} (W : WF R) {t h j k : Nat} (ht : t < R.length) (hj : j ∈ kids R h) (hk : k ∈ kids R h) (cj : j ∈ chain R t) (ck : k ∈ chain R t) : j = k := by
  have key : ∀ {j k : Nat}, j ∈ kids R h → k ∈ kids R h → j ∈ chain R t → k ∈ chain R t → ¬ j < k := by
    intro j k hj hk cj ck lt
    have m := chain_lin W ht ck cj (by omega)
    have kp := kids_pos W hk
    have kl := (mem_kids.mp hk)
    have : j ∈ (chain R k).tail := (chain_tail W kl.1).mpr ⟨m, by omega⟩
    rw [tail_hol W kp.1 kl.1, kl.2, Int.toNat_natCast] at this
    have := chain_le W (by have := kids_pos W hk; omega) this
    have := kids_pos W hj
    omega
  rcases Nat.lt_trichotomy j k with h | h | h
  · exact (key hj hk cj ck h).elim
  · exact h
  · exact (key hk hj ck cj h).elim
theorem kid_ex {R : List Rm} (W : WF R) {h : Nat} : ∀ {t : Nat}, t < R.length → h ∈ (chain R t).tail → ∃ k, k ∈ kids R h ∧ k ∈ chain R t := by
  intro t
  induction t using Nat.strongRecOn with
  | ind t ih =>
    intro ht hh
    have h0 : 0 < t := by have := chain_lt W ht hh; omega
    have hl := hol_lt W h0 ht
    rw [tail_hol W h0 ht] at hh
    by_cases e : h = (hol R t).toNat
    · have := W.hk t h0 ht
      exact ⟨t, mem_kids.mpr ⟨ht, by omega⟩, chain_self W ht⟩
    · obtain ⟨k, k1, k2⟩ := ih _ hl (by omega) ((chain_tail W (by omega)).mpr ⟨hh, e⟩)
      exact ⟨k, k1, by rw [chain_s W h0 ht]; exact List.mem_cons_of_mem _ k2⟩
def tow (R : List Rm) (t h : Nat) : Option Nat := (kids R h).find? fun j => decide (j ∈ chain R t)
theorem tow_some {R : List Rm} (W : WF R) {t h j : Nat} (ht : t < R.length) : tow R t h = some j ↔ j ∈ kids R h ∧ j ∈ chain R t := by
  constructor
  · intro e
    exact ⟨List.mem_of_find?_eq_some e, by simpa using List.find?_some e⟩
  · rintro ⟨h1, h2⟩
    cases e : tow R t h with
    | none => exact absurd h2 (by simpa using List.find?_eq_none.mp e j h1)
    | some k => rw [kid_uniq W ht h1 (List.mem_of_find?_eq_some e) h2 (by simpa using List.find?_some e)]
theorem tow_none {R : List Rm} (W : WF R) {t h : Nat} (ht : t < R.length) : tow R t h = none ↔ h ∉ (chain R t).tail := by
  constructor
  · intro e hh
    obtain ⟨k, k1, k2⟩ := kid_ex W ht hh
    exact absurd k2 (by simpa using List.find?_eq_none.mp e k k1)
  · intro hh
    cases e : tow R t h with
    | none => rfl
    | some k =>
      obtain ⟨k1, k2⟩ := (tow_some W ht).mp e
      have kp := kids_pos W k1
      have kl := mem_kids.mp k1
      refine (hh ?_).elim
      have : h ∈ (chain R k).tail := by rw [tail_hol W kp.1 kl.1, kl.2, Int.toNat_natCast]; exact chain_self W (by omega)
      have lt := chain_lt W kl.1 this
      have := chain_le W ht k2
      exact (chain_tail W ht).mpr ⟨chain_trans W ht k2 (List.mem_of_mem_tail ‹h ∈ (chain R k).tail›), by omega⟩
theorem chz_eq {R : List Rm} {mz : Nat → Nat} {t h : Nat} : chz R mz t h = match tow R t h with
  | some j => j
  | none => if knd R h = "keep" then mz h else fst R h := rfl
theorem updL_hit {R : List Rm} {h x : Nat} (ha : knd R h ≠ "all") : ∀ (l : List Nat) (z : Nat → Int), (∀ k ∈ l, (hol R k).toNat = h → k = x) → (z h = x ∨ ∃ k ∈ l, (hol R k).toNat = h) → updL R l z h = x
  | [], z, _, e => by
    rcases e with e | ⟨k, hk, _⟩
    · exact e
    · cases hk
  | k :: l, z, u, e => by
    unfold updL
    rw [List.foldl_cons]
    refine updL_hit ha l _ (fun j hj => u j (List.mem_cons_of_mem _ hj)) ?_
    by_cases hk : (hol R k).toNat = h
    · left
      rw [hk, if_neg ha, up, if_pos rfl, u k (List.mem_cons_self ..) hk]
    · rcases e with e | ⟨j, hj, ej⟩
      · left
        split
        · exact e
        · rw [up, if_neg fun q => hk q.symm]; exact e
      · rcases List.mem_cons.mp hj with rfl | hj
        · exact absurd ej hk
        · exact .inr ⟨j, hj, ej⟩
theorem updL_miss {R : List Rm} {h : Nat} : ∀ (l : List Nat) (z : Nat → Int), (∀ k ∈ l, (hol R k).toNat = h → knd R h = "all") → updL R l z h = z h
  | [], z, _ => rfl
  | k :: l, z, u => by
    unfold updL
    rw [List.foldl_cons]
    have := updL_miss l (if knd R (hol R k).toNat = "all" then z else up z (hol R k).toNat k) fun j hj => u j (List.mem_cons_of_mem _ hj)
    unfold updL at this
    rw [this]
    split
    · rfl
    · rename_i hne
      unfold up
      rw [if_neg]
      rintro rfl
      exact hne (u k (List.mem_cons_self ..) rfl)
section
variable {R : List Rm} {a : Ar} {z : Nat → Int}
theorem gz_out (W : WF R) (g : GA R a) {h : Nat} (hh : h < R.length) (hm : scA R a ∉ chain R h) : gz R a z h = z h := by
  obtain ⟨o1, o2, o3⟩ := scA_in W g
  unfold gz
  rw [updL_miss _ _ fun k hk e => ?_, g1, if_neg fun q => hm (List.mem_of_mem_tail q.2)]
  obtain ⟨k1, k2⟩ := (pre_mem W g.t (List.mem_of_mem_tail o3)).mp hk
  have kl := chain_mem_lt W g.t k1
  have lt := chain_lt W kl k2
  rw [tail_hol W (by omega) kl, e] at k2
  exact (hm k2).elim
theorem gz_tow (W : WF R) (g : GA R a) {h j : Nat} (hh : h < R.length) (ha : knd R h ≠ "all") (hm : scA R a ∈ chain R h) (ht : tow R a.tgt h = some j) : gz R a z h = j := by
  obtain ⟨o1, o2, o3⟩ := scA_in W g
  obtain ⟨j1, j2⟩ := (tow_some W g.t).mp ht
  have jp := kids_pos W j1
  have jl := mem_kids.mp j1
  unfold gz
  refine updL_hit ha _ _ (fun k hk e => ?_) (.inr ⟨j, (pre_mem W g.t (List.mem_of_mem_tail o3)).mpr ⟨j2, ?_⟩, by rw [jl.2, Int.toNat_natCast]⟩)
  · obtain ⟨k1, k2⟩ := (pre_mem W g.t (List.mem_of_mem_tail o3)).mp hk
    have kl := chain_mem_lt W g.t k1
    have lt := chain_lt W kl k2
    have := W.hk k (by omega) kl
    exact kid_uniq W g.t (mem_kids.mpr ⟨kl, by omega⟩) j1 k1 j2
  · rw [tail_hol W jp.1 jl.1, jl.2, Int.toNat_natCast]
    exact hm
theorem gz_none (W : WF R) (g : GA R a) {h : Nat} (hh : h < R.length) (ht : tow R a.tgt h = none) : gz R a z h = g1 R (scA R a) z h := by
  obtain ⟨o1, o2, o3⟩ := scA_in W g
  unfold gz
  refine updL_miss _ _ fun k hk e => ?_
  obtain ⟨k1, k2⟩ := (pre_mem W g.t (List.mem_of_mem_tail o3)).mp hk
  have kl := chain_mem_lt W g.t k1
  have lt := chain_lt W kl k2
  have := W.hk k (by omega) kl
  have := (tow_some W g.t (h := h) (j := k)).mpr ⟨mem_kids.mpr ⟨kl, by omega⟩, k1⟩
  rw [ht] at this
  cases this
/-- what is kept behind an arrow -/
theorem gone_reach (W : WF R) (g : GA R a) {M : D} {mz : Nat → Nat} (hM : Mem R M mz) (C : Cho R z) (hz : ∀ h, h < R.length → knd R h = "keep" → scA R a ∈ (chain R h).tail → zN z h = mz h) (hk0 : reach R (zN z) 0 (scA R a) = true) {k : Nat} (hk : k < R.length) :
    reach R (zN (gz R a z)) 0 k = true ↔ (reach R (zN z) 0 k = true ∧ (k = scA R a ∨ scA R a ∉ chain R k)) ∨ reach R (chz R mz a.tgt) (chz R mz a.tgt (scA R a)) k = true := by
  obtain ⟨o1, o2, o3⟩ := scA_in W g
  obtain ⟨m, hm⟩ : ∃ m, m = scA R a := ⟨_, rfl⟩
  have ml := scA_lt g
  rw [← hm] at hz hk0 o1 o2 o3 ml ⊢
  obtain ⟨r, r1, r2⟩ := kid_ex W g.t o3
  have tm := (tow_some W g.t).mpr ⟨r1, r2⟩
  have er : chz R mz a.tgt m = r := by rw [chz_eq, tm]
  have rp := kids_pos W r1
  have rl := mem_kids.mp r1
  have agree : ∀ {k : Nat}, k < R.length → m ∉ (chain R k).tail → reach R (zN (gz R a z)) 0 k = reach R (zN z) 0 k := fun {k} hk hn => by
    refine reach_agree W hk fun j hj => ?_
    unfold zN
    rw [gz_out W g (by have := chain_lt W hk hj; omega)]
    rw [← hm]
    intro q
    refine hn ((chain_tail W hk).mpr ⟨chain_trans W hk (List.mem_of_mem_tail hj) q, ?_⟩)
    have := chain_lt W hk hj
    have := chain_le W (by omega) q
    omega
  have mr : m ∈ (chain R r).tail := by rw [tail_hol W rp.1 rl.1, rl.2, Int.toNat_natCast]; exact chain_self W ml
  rw [er]
  by_cases c : m ∈ (chain R k).tail
  · have cm := (chain_tail W hk).mp c
    rw [reach_split W (Nat.zero_le m) hk cm.1]
    have a1 : reach R (zN (gz R a z)) 0 m = true := by
      rw [agree ml fun q => by have := chain_lt W ml q; omega]
      exact hk0
    have em : zN (gz R a z) m = r := by
      unfold zN
      rw [gz_tow W g ml (ok2_not_all o1) (by rw [← hm]; exact chain_self W ml) tm]
      simp
    rw [reach_down W ml o1 (by rw [em]; exact r1) hk, em]
    have : reach R (zN (gz R a z)) r k = reach R (chz R mz a.tgt) r k := by
      refine reach_congr2 W (fun j hj hr ho => ?_) hk
      have hmj : m ∈ (chain R j).tail := by
        have x1 := chain_trans W hj hr (List.mem_of_mem_tail mr)
        refine (chain_tail W hj).mpr ⟨x1, ?_⟩
        have := chain_le W hj hr
        omega
      cases tj : tow R a.tgt j with
      | some i =>
        unfold zN
        rw [gz_tow W g hj (ok2_not_all ho) (by rw [← hm]; exact List.mem_of_mem_tail hmj) tj, chz_eq, tj]
        simp
      | none =>
        unfold zN
        rw [gz_none W g hj tj, chz_eq, tj]
        unfold g1
        rw [← hm]
        by_cases h1 : knd R j = "one"
        · rw [if_pos ⟨h1, hmj⟩]
          have hnk : ¬ knd R j = "keep" := by rw [h1]; decide
          simp only [fz, if_pos ho, if_neg hnk, Int.toNat_natCast]
        · have h2 : knd R j = "keep" := by
            simp [ok2] at ho
            rcases ho with ho | ho
            · exact absurd ho h1
            · exact ho
          rw [if_neg fun q => h1 q.1]
          simp only [h2, if_true]
          exact hz j hj h2 hmj
    rw [this]
    constructor
    · rintro ⟨_, h | h⟩
      · exact absurd h.symm cm.2
      · exact .inr h
    · rintro (⟨_, h | h⟩ | h)
      · exact absurd h.symm cm.2
      · exact absurd cm.1 h
      · exact ⟨a1, .inr h⟩
  · rw [agree hk c]
    have no : ¬ reach R (chz R mz a.tgt) r k = true := fun q => by
      have x1 := reach_mem W hk q
      have x2 := chain_trans W hk x1 (List.mem_of_mem_tail mr)
      refine c ((chain_tail W hk).mpr ⟨x2, ?_⟩)
      have := chain_le W hk x1
      omega
    constructor
    · intro h
      refine .inl ⟨h, ?_⟩
      by_cases e : k = m
      · exact .inl e
      · exact .inr fun q => c ((chain_tail W hk).mpr ⟨q, fun x => e x.symm⟩)
    · rintro (h | h)
      · exact h.1
      · exact absurd h no
end
end My
set_option Elab.async false
set_option linter.all false
set_option maxRecDepth 100000
set_option maxHeartbeats 4000000
set_option autoImplicit false
noncomputable section
namespace My
open PySem PySem.Spec L2 DL
open PyProof.Rows hiding St
/-! ### one step of the program -/
section
variable {R : List Rm} {z z0 : Nat → Int}
theorem cho_nat (C : Cho R z) {k : Nat} (hk : k < R.length) (ho : ok2 (knd R k) = true) : z k = (zN z k : Int) ∧ zN z k ∈ kids R k := by
  obtain ⟨j, hj, e⟩ := C.two k hk ho
  have : zN z k = j := by unfold zN; rw [e]; simp
  rw [this]
  exact ⟨e, hj⟩
theorem mem_of (W : WF R) (C : Cho R z) : Mem R (.tup ((mems R z).map .int)) (zN z) := ⟨fun k hk h => by
  have ho : ok2 (knd R k) = true := by rw [h]; decide
  rw [o_idxT, mems_at hk]
  simp only [memI, h, if_true, Option.map_some]
  rw [← (cho_nat C hk ho).1], fun k hk h => (cho_nat C hk (by rw [h]; decide)).2⟩
theorem asc_asc {c : Nat → Nat} : (asc R c).Pairwise (· < ·) := filter_asc
theorem asc_nodup {c : Nat → Nat} : (asc R c).Nodup := asc_asc.imp fun h e => by omega
theorem asc_mem {c : Nat → Nat} {k : Nat} : k ∈ asc R c ↔ k < R.length ∧ reach R c 0 k = true := by simp [asc]
theorem gone_eq (W : WF R) {A : List D} {a : Ar} (g : GA R a) (C : Cho R z) (C0 : Cho R z0) (hz : ∀ h, h < R.length → knd R h = "keep" → scA R a ∈ (chain R h).tail → zN z h = zN z0 h) (hk0 : reach R (zN z) 0 (scA R a) = true) :
    F_gone [eC R A, .lst ((asc R (zN z)).map nI), .tup ((mems R z0).map .int), eA a] = .ok (.fr ((asc R (zN (gz R a z))).map nI)) := by
  have n2 := W.n2
  have hM := mem_of W C0
  have sc := scope_eq W (A := A) g.s g.t
  rw [scA_eq g] at sc
  obtain ⟨o1, o2, o3⟩ := scA_in W g
  have ml := scA_lt g
  have ch := chosen_eq W (A := A) hM ml g.t o1
  have rk := chz_ch W hM a.tgt _ ml o1
  have rl := (mem_kids.mp rk).1
  obtain ⟨E, e1, e2, e3⟩ := entered_eq W (A := A) hM rl g.t
  obtain ⟨M, hMd⟩ : ∃ M, M = D.tup ((mems R z0).map .int) := ⟨_, rfl⟩
  rw [← hMd] at ch e1 ⊢
  obtain ⟨m, hm⟩ : ∃ m, m = scA R a := ⟨_, rfl⟩
  have key := fun {k : Nat} (hk : k < R.length) => gone_reach W g hM C hz hk0 hk
  rw [← hm] at sc ch e1 e3 key ml
  obtain ⟨r, hr⟩ : ∃ r, r = chz R (zN z0) a.tgt m := ⟨_, rfl⟩
  rw [← hr] at ch e1 e3 key
  obtain ⟨K, hK⟩ : ∃ K, K = asc R (zN z) := ⟨_, rfl⟩
  have Kl : ∀ k ∈ K, k < R.length := fun k h => by rw [hK] at h; exact (asc_mem.mp h).1
  have Kn : K.length ≤ R.length := by rw [hK]; unfold asc; exact Nat.le_trans (List.length_filter_le ..) (by simp)
  obtain ⟨p, hp⟩ : ∃ p : Nat → Bool, p = fun k => decide (k = m) || !decide (m ∈ chain R k) := ⟨_, rfl⟩
  have hc : ∀ e : List DL.Slot, e[6]? = some .un → e[0]? = some (.sh (eC R A)) → e[4]? = some (.sh (.int m)) →
      compL 6 (orT (asB (op2 eqD (v 6) (v 4))) (notT (asB (callU F_within [(v 0), (v 6), (v 4)])))) (v 6) (K.map nI) [] e = .ok ((K.filter p).map nI) e := by
    intro e h6 h0 h4
    obtain ⟨hl, _⟩ := List.getElem?_eq_some_iff.mp h6
    have := DL.comp_map (ix := 6) (t := orT (asB (op2 eqD (v 6) (v 4))) (notT (asB (callU F_within [(v 0), (v 6), (v 4)])))) (f := v 6) (e := e) (g := nI) (g' := nI) (p := p) (w := fun j => j) (xs := K) (by omega)
      (fun k hk => by
        have w := within_eq W (A := A) (Kl k hk) ml
        have ee : ((k : Int) = m) ↔ k = m := by omega
        rw [hp]
        by_cases h1 : k = m
        · subst h1
          simp [hl, h0, h4, nI]
        · by_cases h2 : m ∈ chain R k <;> simp [hl, h0, h4, nI, h1, ee, w, h2])
      (fun j _ _ => ⟨.sh (nI j), by simp [nI, hl], rfl⟩) h6
    simpa using this
  have El : E.length ≤ R.length := by
    have := List.Nodup.length_le_of_subset (l₂ := List.range R.length) e2 fun k hk => List.mem_range.mpr ((e3 k).mp hk).1
    simpa using this
  have Sl : (K.filter p).length ≤ R.length := Nat.le_trans (List.length_filter_le ..) Kn
  have so := sorted_eq (K := K.filter p ++ E) (S := asc R (zN (gz R a z))) (by
      refine List.nodup_append.mpr ⟨?_, e2, fun x hx y hy exy => ?_⟩
      · rw [hK]
        exact List.Pairwise.filter _ asc_nodup
      · subst exy
        have h1 := (List.mem_filter.mp hx).2
        rw [hp] at h1
        simp only [Bool.or_eq_true, Bool.not_eq_true', decide_eq_true_eq, decide_eq_false_iff_not] at h1
        obtain ⟨xl, x1⟩ := (e3 x).mp hy
        have x2 := reach_mem W xl x1
        have hrk := mem_kids.mp rk
        rw [← hm, ← hr] at hrk
        have rp := kids_pos W (mem_kids.mpr hrk)
        have mr : m ∈ (chain R r).tail := by rw [tail_hol W rp.1 hrk.1, hrk.2, Int.toNat_natCast]; exact chain_self W ml
        have x3 := chain_trans W xl x2 (List.mem_of_mem_tail mr)
        have := chain_le W xl x2
        rcases h1 with h1 | h1
        · omega
        · exact h1 x3) asc_asc fun k => by
      rw [List.mem_append, List.mem_filter, e3, asc_mem, hp, hK, asc_mem]
      simp only [Bool.or_eq_true, Bool.not_eq_true', decide_eq_true_eq, decide_eq_false_iff_not]
      constructor
      · rintro (⟨⟨h1, h2⟩, h3⟩ | ⟨h1, h2⟩)
        · exact ⟨h1, (key h1).mpr (.inl ⟨h2, h3⟩)⟩
        · exact ⟨h1, (key h1).mpr (.inr h2)⟩
      · rintro ⟨h1, h2⟩
        rcases (key h1).mp h2 with ⟨h3, h4⟩ | h3
        · exact .inl ⟨⟨h1, h3⟩, h4⟩
        · exact .inr ⟨h1, h3⟩
  rw [List.map_append] at so
  rw [← hK]
  obtain ⟨S, hS⟩ : ∃ S, S = asc R (zN (gz R a z)) := ⟨_, rfl⟩
  rw [← hS] at so ⊢
  obtain ⟨T, hT⟩ : ∃ T, T = K.filter p := ⟨_, rfl⟩
  rw [← hT] at so hc Sl
  have ad : addD (.lst (T.map nI)) (.lst (E.map nI)) = some (.fr (T.map nI ++ E.map nI)) := if_pos (show (T.map nI).length + (E.map nI).length ≤ 100000 by simp; omega)
  simp only [eC, eRs, eO] at sc ch e1 hc
  simp [F_gone, B_gone, eC, eRs, eA, sc, hc, ch, e1, ad, so]
/-- what is remembered -/
theorem remembered_eq (W : WF R) {A : List D} (C : Cho R z) (C0 : Cho R z0) (hz : ∀ h, h < R.length → knd R h = "keep" → z h ≠ z0 h → reach R (zN z) 0 h = true) :
    F_remembered [eC R A, .lst ((asc R (zN z)).map nI), .tup ((mems R z0).map .int)] = .ok (.sh (.tup ((mems R z).map .int))) := by
  have n2 := W.n2
  obtain ⟨K, hK⟩ : ∃ K, K = asc R (zN z) := ⟨_, rfl⟩
  rw [← hK]
  let mm : List Nat → Nat → Int := fun l h => if ∃ k ∈ l, hol R k = (h : Int) then z h else z0 h
  obtain ⟨M, hM⟩ : ∃ M, M = D.tup ((mems R z0).map .int) := ⟨_, rfl⟩
  obtain ⟨e', q, j4, j5, rfl⟩ := for_mapQ (ix := 4) (body := L_remembered_1) (f := nI) (xs := K) (e := [.sh (eC R A), .sh (.lst (K.map nI)), .sh M, .ow ((mems R (mm [])).map .int), .un, .un])
    (fun l e => ∃ j4 j5, e = [.sh (eC R A), .sh (.lst (K.map nI)), .sh M, .ow ((mems R (mm l)).map .int), j4, j5])
    (by
      rintro l k e hk _ ⟨j4, j5, rfl⟩ Q hQ
      rw [hK] at hk
      obtain ⟨kl, kr⟩ := asc_mem.mp hk
      have r1 := rm_atI kl
      by_cases h0 : 0 < k
      · obtain ⟨a1, a2⟩ := W.hk k h0 kl
        obtain ⟨h, hh⟩ : ∃ h : Nat, (h : Int) = hol R k := ⟨(hol R k).toNat, by omega⟩
        have hl : h < R.length := by omega
        have r2 := rm_atI hl
        have ix : ixN (mems R (mm l)).length (h : Int) = some h := ixN_nat (by simp [mems]; exact hl)
        by_cases hkp : knd R h = "keep"
        · have ho : ok2 (knd R h) = true := by rw [hkp]; decide
          have zh : z h = (k : Int) := by
            have hop : op R (zN z) k = true := by
              rcases (reach_iff W kl).mp kr with e | ⟨_, _, e⟩
              · omega
              · exact e
            rw [op_at hh.symm ho] at hop
            simp at hop
            rw [(cho_nat C hl ho).1, hop]
          have st : ((mems R (mm l)).map D.int).set h (.int k) = (mems R (mm (l ++ [k]))).map D.int := by
            apply List.ext_getElem?
            intro j
            rw [List.getElem?_set]
            by_cases hj : h = j
            · subst hj
              have : (∃ k' ∈ l ++ [k], hol R k' = (h : Int)) := ⟨k, by simp, hh.symm⟩
              have v1 : memI R (mm (l ++ [k])) h = k := by
                unfold memI
                rw [if_pos hkp]
                show (if ∃ k' ∈ l ++ [k], hol R k' = (h : Int) then z h else z0 h) = _
                rw [if_pos this, zh]
              simp [mems, hl, v1]
            · rw [if_neg hj]
              by_cases hjl : j < R.length
              · have : (∃ k' ∈ l ++ [k], hol R k' = (j : Int)) ↔ ∃ k' ∈ l, hol R k' = (j : Int) := by
                  constructor
                  · rintro ⟨k', h1, h2⟩
                    rcases List.mem_append.mp h1 with h1 | h1
                    · exact ⟨k', h1, h2⟩
                    · simp at h1
                      subst h1
                      omega
                  · rintro ⟨k', h1, h2⟩
                    exact ⟨k', List.mem_append_left _ h1, h2⟩
                have v2 : memI R (mm (l ++ [k])) j = memI R (mm l) j := by
                  unfold memI
                  show (if _ then (if ∃ k' ∈ l ++ [k], hol R k' = (j : Int) then z j else z0 j) else _) = (if _ then (if ∃ k' ∈ l, hol R k' = (j : Int) then z j else z0 j) else _)
                  simp only [this]
                simp [mems, hjl, v2]
              · simp [mems, hjl]
          obtain ⟨Y, hY⟩ : ∃ Y, Y = mems R (mm l) := ⟨_, rfl⟩
          rw [← hY] at ix st ⊢
          rw [← st] at hQ
          rw [← hh] at r1
          simp only [eC, eRs] at hQ ⊢
          simp [L_remembered_1, lkR, nI, r1, r2, hkp, ix]
          exact hQ _ ⟨_, _, rfl⟩
        · have st : mems R (mm (l ++ [k])) = mems R (mm l) := by
            unfold mems
            refine List.map_congr_left fun j hj => ?_
            unfold memI
            by_cases hjk : knd R j = "keep"
            · have : (∃ k' ∈ l ++ [k], hol R k' = (j : Int)) ↔ ∃ k' ∈ l, hol R k' = (j : Int) := by
                constructor
                · rintro ⟨k', h1, h2⟩
                  rcases List.mem_append.mp h1 with h1 | h1
                  · exact ⟨k', h1, h2⟩
                  · simp at h1
                    subst h1
                    have : h = j := by omega
                    subst this
                    exact absurd hjk hkp
                · rintro ⟨k', h1, h2⟩
                  exact ⟨k', List.mem_append_left _ h1, h2⟩
              simp only [mm, this]
            · rw [if_neg hjk, if_neg hjk]
          rw [st] at hQ
          rw [← hh] at r1
          obtain ⟨Y, hY⟩ : ∃ Y, Y = mems R (mm l) := ⟨_, rfl⟩
          rw [← hY] at hQ ⊢
          simp only [eC, eRs] at hQ ⊢
          simp [L_remembered_1, lkR, nI, r1, r2, hkp]
          exact hQ _ ⟨_, _, rfl⟩
      · have : k = 0 := by omega
        subst this
        have w0 := W.h0
        have st : mems R (mm (l ++ [0])) = mems R (mm l) := by
          unfold mems
          refine List.map_congr_left fun j hj => ?_
          unfold memI
          by_cases hjk : knd R j = "keep"
          · have : (∃ k' ∈ l ++ [0], hol R k' = (j : Int)) ↔ ∃ k' ∈ l, hol R k' = (j : Int) := by
              constructor
              · rintro ⟨k', h1, h2⟩
                rcases List.mem_append.mp h1 with h1 | h1
                · exact ⟨k', h1, h2⟩
                · simp at h1
                  subst h1
                  omega
              · rintro ⟨k', h1, h2⟩
                exact ⟨k', List.mem_append_left _ h1, h2⟩
            simp only [mm, this]
          · rw [if_neg hjk, if_neg hjk]
        rw [st] at hQ
        rw [w0] at r1
        have r1 : atI (R.map eR) 0 = _ := r1
        obtain ⟨Y, hY⟩ : ∃ Y, Y = mems R (mm l) := ⟨_, rfl⟩
        rw [← hY] at hQ ⊢
        simp only [eC, eRs] at hQ ⊢
        simp [L_remembered_1, lkR, nI, r1]
        exact hQ _ ⟨_, _, rfl⟩)
    ⟨_, _, rfl⟩
  have e1 : mems R (mm []) = mems R z0 := by
    unfold mems
    refine List.map_congr_left fun j hj => ?_
    unfold memI
    simp [mm]
  have e2 : mems R (mm K) = mems R z := by
    unfold mems
    refine List.map_congr_left fun h hh => ?_
    have hl := List.mem_range.mp hh
    unfold memI
    by_cases hk : knd R h = "keep"
    · rw [if_pos hk, if_pos hk]
      by_cases hx : ∃ k ∈ K, hol R k = (h : Int)
      · simp only [mm, if_pos hx]
      · simp only [mm, if_neg hx]
        by_cases he : z h = z0 h
        · exact he.symm
        · exfalso
          have hr := hz h hl hk he
          have ho : ok2 (knd R h) = true := by rw [hk]; decide
          have ck := (cho_nat C hl ho).2
          have cm := mem_kids.mp ck
          have cp := kids_pos W ck
          refine hx ⟨zN z h, ?_, cm.2⟩
          rw [hK]
          refine asc_mem.mpr ⟨cm.1, (reach_iff W cm.1).mpr (.inr ⟨cp.1, ?_, ?_⟩)⟩
          · rw [cm.2, Int.toNat_natCast]; exact hr
          · rw [op_at cm.2 ho]; simp
    · rw [if_neg hk, if_neg hk]
  rw [e1, e2] at q
  rw [← hM]
  obtain ⟨Y0, hY0⟩ : ∃ Y, Y = mems R z0 := ⟨_, rfl⟩
  obtain ⟨Y, hY⟩ : ∃ Y, Y = mems R z := ⟨_, rfl⟩
  rw [← hY0] at q hM
  rw [← hY] at q ⊢
  rw [hM] at q ⊢
  simp only [eC, eRs] at q
  simp [F_remembered, B_remembered, eC, eRs, q]
end
end My
set_option Elab.async false
set_option linter.all false
set_option maxRecDepth 100000
set_option maxHeartbeats 4000000
set_option autoImplicit false
noncomputable section
namespace My
open PySem PySem.Spec L2 DL
open PyProof.Rows hiding St
/-! ### framed charts -/
def frR (a b : Nat) (k2 k3 : Str) : List Rm := [((-1 : Int), ("one" : Str)), (0, "all"), (1, k2), (1, k3)] ++ (List.range a).map (fun _ => ((2 : Int), ("plain" : Str))) ++ (List.range b).map (fun _ => ((3 : Int), ("plain" : Str))) ++ [((0 : Int), ("plain" : Str))]
def frA (a b : Nat) (ds : Nat → Int) (ev g1 : Int) (t1 : Nat) (cb : Bool) : List Ar :=
  (List.range a).map (fun k => ⟨4 + k, 0, -1, 4 + (k + 1) % a, ds k⟩) ++ (List.range b).map (fun k => ⟨4 + a + k, ev, -1, 4 + a + (k + 1) % b, ds (3 + k)⟩) ++ [⟨1, 1, g1, 4 + a + b, ds 6⟩] ++ [⟨4 + a + b, 2, -1, t1, ds 7⟩] ++
    if cb = true then [⟨5, 3, -1, 4 + a + b, 7⟩, ⟨4 + a + 1, 3, -1, 4 + a, 8⟩] else []
def wfB (R : List Rm) : Bool := decide (1 ≤ R.length) && (decide (R.length ≤ 16) && (decide (hol R 0 = -1) && (List.range R.length).all fun k =>
  (decide (k = 0) || (decide (0 ≤ hol R k) && decide (hol R k < k))) && ((decide (knd R k = "plain") || (decide (knd R k = "one") || (decide (knd R k = "all") || decide (knd R k = "keep")))) &&
    decide (knd R k = "plain" ↔ (List.range R.length).all (fun j => decide (hol R j ≠ k)) = true))))
theorem wf_of {R : List Rm} (h : wfB R = true) : WF R := by
  simp only [wfB, Bool.and_eq_true, decide_eq_true_eq] at h
  obtain ⟨h1, h2, h3, h4⟩ := h
  have h4 : ∀ k, k < R.length → _ := fun k hk => List.all_eq_true.mp h4 k (List.mem_range.mpr hk)
  simp only [Bool.and_eq_true, Bool.or_eq_true, decide_eq_true_eq] at h4
  refine ⟨h1, h2, h3, fun k h0 hk => ?_, fun k hk => ?_, fun k hk => ?_⟩
  · rcases (h4 k hk).1 with e | e
    · omega
    · exact e
  · exact (h4 k hk).2.1
  · rw [(h4 k hk).2.2]
    simp [List.all_eq_true]
def gaB (R : List Rm) (a : Ar) : Bool := decide (a.src < R.length) && (decide (a.tgt < R.length) && (decide (0 ≤ a.ev ∧ a.ev < 4) && (decide (-1 ≤ a.gd ∧ a.gd < R.length) && (scp R a.src a.tgt).isSome)))
theorem ga_of {R : List Rm} {a : Ar} (h : gaB R a = true) (hd : 0 ≤ a.deed ∧ a.deed < 100) : GA R a := by
  simp only [gaB, Bool.and_eq_true, decide_eq_true_eq] at h
  obtain ⟨h1, h2, h3, h4, h5⟩ := h
  exact ⟨h1, h2, h3, h4, hd, Option.isSome_iff_exists.mp h5⟩
def frOK (a b : Nat) (k2 k3 : Str) : Bool := wfB (frR a b k2 k3) && ([(0 : Int), 3].all fun ev => [(-1 : Int), 5, (4 + a + 1 : Nat)].all fun g1 => [1, 2, 5].all fun t1 => (frA a b (fun _ => 0) ev g1 t1 true).all (gaB (frR a b k2 k3)))
theorem fr_ok : ([2, 3].all fun a => [2, 3].all fun b => [("keep" : Str), "one"].all fun k2 => [("keep" : Str), "one"].all fun k3 => frOK a b k2 k3) = true := by decide +kernel
theorem frA_ga {R : List Rm} {a b : Nat} {ds : Nat → Int} {ev g1 : Int} {t1 : Nat} {cb : Bool} (h : (frA a b (fun _ => 0) ev g1 t1 true).all (gaB R) = true) (hd : ∀ k, k < 10 → 0 ≤ ds k ∧ ds k < 2) (ha : a ≤ 3) (hb : b ≤ 3) : ∀ x ∈ frA a b ds ev g1 t1 cb, GA R x := by
  have h := fun x hx => List.all_eq_true.mp h x hx
  intro x hx
  simp only [frA, List.mem_append, List.mem_map, List.mem_range, List.mem_singleton, if_true, List.mem_cons, List.mem_nil_iff, or_false] at h hx
  rcases hx with (((⟨k, hk, rfl⟩ | ⟨k, hk, rfl⟩) | rfl) | rfl) | hx
  · have := h ⟨4 + k, 0, -1, 4 + (k + 1) % a, 0⟩ (.inl (.inl (.inl (.inl ⟨k, hk, rfl⟩))))
    refine ga_of this ?_
    have := hd k (by omega)
    dsimp only
    omega
  · have := h ⟨4 + a + k, ev, -1, 4 + a + (k + 1) % b, 0⟩ (.inl (.inl (.inl (.inr ⟨k, hk, rfl⟩))))
    refine ga_of this ?_
    have := hd (3 + k) (by omega)
    dsimp only
    omega
  · have := h ⟨1, 1, g1, 4 + a + b, 0⟩ (.inl (.inl (.inr rfl)))
    refine ga_of this ?_
    have := hd 6 (by omega)
    dsimp only
    omega
  · have := h ⟨4 + a + b, 2, -1, t1, 0⟩ (.inl (.inr rfl))
    refine ga_of this ?_
    have := hd 7 (by omega)
    dsimp only
    omega
  · split at hx
    · simp only [List.mem_cons, List.mem_nil_iff, or_false] at hx
      rcases hx with rfl | rfl
      · exact ga_of (h _ (.inr (.inl rfl))) (by dsimp only; omega)
      · exact ga_of (h _ (.inr (.inr rfl))) (by dsimp only; omega)
    · cases hx
structure FrC (a b : Nat) (k2 k3 : Str) (ds : Nat → Int) (ev g1 : Int) (t1 : Nat) : Prop where
  fa : a = 2 ∨ a = 3
  fb : b = 2 ∨ b = 3
  fk2 : k2 = "keep" ∨ k2 = "one"
  fk3 : k3 = "keep" ∨ k3 = "one"
  fds : ∀ k, k < 10 → 0 ≤ ds k ∧ ds k < 2
  fev : ev = 0 ∨ ev = 3
  fg1 : g1 = -1 ∨ g1 = 5 ∨ g1 = (4 + a + 1 : Nat)
  ft1 : t1 = 1 ∨ t1 = 2 ∨ t1 = 5
section
variable {a b : Nat} {k2 k3 : Str} {ds : Nat → Int} {ev g1 : Int} {t1 : Nat}
theorem FrC.ok (h : FrC a b k2 k3 ds ev g1 t1) : frOK a b k2 k3 = true := by
  have := fr_ok
  have ma : a ∈ [2, 3] := by rcases h.fa with e | e <;> simp [e]
  have mb : b ∈ [2, 3] := by rcases h.fb with e | e <;> simp [e]
  have m2 : k2 ∈ [("keep" : Str), "one"] := by rcases h.fk2 with e | e <;> simp [e]
  have m3 : k3 ∈ [("keep" : Str), "one"] := by rcases h.fk3 with e | e <;> simp [e]
  exact List.all_eq_true.mp (List.all_eq_true.mp (List.all_eq_true.mp (List.all_eq_true.mp this a ma) b mb) k2 m2) k3 m3
theorem FrC.wf (h : FrC a b k2 k3 ds ev g1 t1) : WF (frR a b k2 k3) := by
  have := h.ok
  simp only [frOK, Bool.and_eq_true] at this
  exact wf_of this.1
theorem FrC.ga (h : FrC a b k2 k3 ds ev g1 t1) {cb : Bool} : ∀ x ∈ frA a b ds ev g1 t1 cb, GA (frR a b k2 k3) x := by
  have := h.ok
  simp only [frOK, Bool.and_eq_true] at this
  have m1 : ev ∈ [(0 : Int), 3] := by rcases h.fev with e | e <;> simp [e]
  have m2 : g1 ∈ [(-1 : Int), 5, (4 + a + 1 : Nat)] := by rcases h.fg1 with e | e | e <;> simp [e]
  have m3 : t1 ∈ [1, 2, 5] := by rcases h.ft1 with e | e | e <;> simp [e]
  refine frA_ga (List.all_eq_true.mp (List.all_eq_true.mp (List.all_eq_true.mp this.2 ev m1) g1 m2) t1 m3) h.fds (by rcases h.fa with e | e <;> omega) (by rcases h.fb with e | e <;> omega)
theorem FrC.len (h : FrC a b k2 k3 ds ev g1 t1) {cb : Bool} : (frA a b ds ev g1 t1 cb).length ≤ 10 := by
  have h1 := h.fa
  have h2 := h.fb
  unfold frA
  cases cb <;> simp <;> omega
end
theorem two_at {i : Int} (h0 : 0 ≤ i) (h : i < 2) : ∃ k : Str, (k = "keep" ∨ k = "one") ∧ atI [D.str "keep", D.str "one"] i = some (.str k) := by
  have : i = 0 ∨ i = 1 := by omega
  rcases this with rfl | rfl
  · exact ⟨_, .inl rfl, rfl⟩
  · exact ⟨_, .inr rfl, rfl⟩
theorem three_at {i : Int} {x y w : Int} (h0 : 0 ≤ i) (h : i < 3) : ∃ k : Int, (k = x ∨ k = y ∨ k = w) ∧ atI [D.int x, D.int y, D.int w] i = some (.int k) := by
  have : i = 0 ∨ i = 1 ∨ i = 2 := by omega
  rcases this with rfl | rfl | rfl
  · exact ⟨_, .inl rfl, rfl⟩
  · exact ⟨_, .inr (.inl rfl), rfl⟩
  · exact ⟨_, .inr (.inr rfl), rfl⟩
theorem lframed_eq {ns : List Int} {s : Nat} {cb : Bool} : ∃ (a b : Nat) (k2 k3 : Str) (ds : Nat → Int) (ev g1 : Int) (t1 : Nat) (cb' : Bool), FrC a b k2 k3 ds ev g1 t1 ∧ (cb = false → cb' = false) ∧
    F__law_framed [.scr ns, .int s, .bl cb] = .ok (.sh (.tup [.lst ((frR a b k2 k3).map eR), .lst ((frA a b ds ev g1 t1 cb').map eA)])) := by
  have c0 : F__law_cell_at [.scr ns, .int (s : Int)] = .ok (.sh (.int (cl ns s))) := cell_eq (by omega)
  obtain ⟨c, hc⟩ : ∃ c, c = cl ns s := ⟨_, rfl⟩
  rw [← hc] at c0
  obtain ⟨a, ha⟩ : ∃ a : Nat, (a : Int) = 2 + c % 2 := ⟨(2 + c % 2).toNat, by omega⟩
  obtain ⟨b, hb⟩ : ∃ a : Nat, (a : Int) = 2 + c / 2 % 2 := ⟨(2 + c / 2 % 2).toNat, by omega⟩
  obtain ⟨k2, hk2, a2⟩ := two_at (i := c / 4 % 2) (by omega) (by omega)
  obtain ⟨k3, hk3, a3⟩ := two_at (i := c / 8 % 2) (by omega) (by omega)
  obtain ⟨ev, hev, ae⟩ := three_at (i := c / 16 % 3) (x := 0) (y := 0) (w := 3) (by omega) (by omega)
  obtain ⟨g1, hg1, ag⟩ := three_at (i := c / 48 % 3) (x := -1) (y := 5) (w := 4 + (a : Int) + 1) (by omega) (by omega)
  obtain ⟨t1, ht1, at1⟩ := three_at (i := c / 144 % 3) (x := 1) (y := 2) (w := 5) (by omega) (by omega)
  obtain ⟨t, ht⟩ : ∃ t : Nat, (t : Int) = t1 := ⟨t1.toNat, by omega⟩
  let ds : Nat → Int := fun k => cl ns ((s : Int) + 1 + (k : Int) % 5) / (1 + (k : Int) / 5 * 3) % 2
  have a3' : a ≤ 3 := by omega
  have b3' : b ≤ 3 := by omega
  refine ⟨a, b, k2, k3, ds, ev, g1, t, cb && decide (c / 432 % 3 = 1), ⟨by omega, by omega, hk2, hk3, fun k _ => ⟨by show 0 ≤ _ % (2 : Int); omega, by show _ % (2 : Int) < 2; omega⟩, by omega, by omega, by omega⟩, fun h => by rw [h]; rfl, ?_⟩
  have cp : ∀ (n : Nat) (h : Int) (e : List DL.Slot), n ≤ 3 → e[9]? = some .un → compL 9 yesT (tupE [kc (.int h), kc (.str "plain")]) (rngD 0 n) [] e = .ok (((List.range n).map fun _ => ((h, ("plain" : Str)) : Rm)).map eR) e := by
    intro n h e hn h9
    obtain ⟨hl, _⟩ := List.getElem?_eq_some_iff.mp h9
    have := comp_all (ix := 9) (f := tupE [kc (.int h), kc (.str "plain")]) (e := e) (g := fun k : Nat => D.int (0 + (k : Nat))) (g' := eR) (w := fun _ => ((h, ("plain" : Str)) : Rm)) (xs := List.range n) (by simp; omega) (fun k _ => ⟨.sh (eR (h, "plain")), by simp [hl, eR], rfl⟩) h9
    rw [rng_map]; exact this
  obtain ⟨DS, hDS⟩ : ∃ DS, DS = (List.range 10).map ds := ⟨_, rfl⟩
  have cd : ∀ (e : List DL.Slot), e[9]? = some .un → e[0]? = some (.sh (.scr ns)) → e[1]? = some (.sh (.int s)) → compL 9 yesT (op2 modD (op2 divD (callU F__law_cell_at [(v 0), (op2 addD (op2 addD (v 1) (kc (.int 1))) (op2 modD (v 9) (kc (.int 5))))]) (op2 addD (kc (.int 1)) (op2 mulD (op2 divD (v 9) (kc (.int 5))) (kc (.int 3))))) (kc (.int 2))) (rngD 0 10) [] e = .ok (DS.map .int) e := by
    intro e h9 h0 h1
    obtain ⟨hl, _⟩ := List.getElem?_eq_some_iff.mp h9
    have := comp_all (ix := 9) (f := op2 modD (op2 divD (callU F__law_cell_at [(v 0), (op2 addD (op2 addD (v 1) (kc (.int 1))) (op2 modD (v 9) (kc (.int 5))))]) (op2 addD (kc (.int 1)) (op2 mulD (op2 divD (v 9) (kc (.int 5))) (kc (.int 3))))) (kc (.int 2))) (e := e) (g := fun k : Nat => D.int (0 + (k : Nat))) (g' := D.int) (w := ds) (xs := List.range 10) (by simp)
      (fun k hk => ⟨.sh (.int (ds k)), by
        have hk := List.mem_range.mp hk
        have q : F__law_cell_at [.scr ns, .int ((s : Int) + 1 + (k : Int) % 5)] = .ok (.sh (.int (cl ns ((s : Int) + 1 + (k : Int) % 5)))) := cell_eq (by omega)
        have p1 : 0 < 1 + (k : Int) / 5 * 3 := by omega
        have p2 : 1 + (k : Int) / 5 * 3 < 1073741824 := by omega
        simp [hl, h0, h1, q, p1, p2, ds], rfl⟩) h9
    rw [rng_map, hDS]; exact this
  have dat : ∀ k : Nat, k < 10 → atI (DS.map D.int) (k : Int) = some (.int (ds k)) := fun k hk => by
    rw [atI_map, DL.atI_nat, hDS]
    simp [hk]
  have d6 : atI (DS.map D.int) 6 = some (.int (ds 6)) := dat 6 (by omega)
  have d7 : atI (DS.map D.int) 7 = some (.int (ds 7)) := dat 7 (by omega)
  have pa : 0 < a := by omega
  have pb : 0 < b := by omega
  obtain ⟨A1, hA1⟩ : ∃ A1 : List Ar, A1 = (List.range a).map fun k => (⟨4 + k, 0, -1, 4 + (k + 1) % a, ds k⟩ : Ar) := ⟨_, rfl⟩
  obtain ⟨A2, hA2⟩ : ∃ A2 : List Ar, A2 = (List.range b).map fun k => (⟨4 + a + k, ev, -1, 4 + a + (k + 1) % b, ds (3 + k)⟩ : Ar) := ⟨_, rfl⟩
  have c1 : ∀ (e : List DL.Slot), e[9]? = some .un → e[4]? = some (.sh (.int a)) → e[10]? = some (.sh (.lst (DS.map .int))) → compL 9 yesT (tupE [(op2 addD (kc (.int 4)) (v 9)), (kc (.int 0)), (kc (.int (-1))), (op2 addD (kc (.int 4)) (op2 modD (op2 addD (v 9) (kc (.int 1))) (v 4))), (op2 idxD (v 10) (v 9))]) (rngD 0 a) [] e = .ok (A1.map eA) e := by
    intro e h9 h4 h10
    obtain ⟨hl, _⟩ := List.getElem?_eq_some_iff.mp h9
    have := comp_all (ix := 9) (f := tupE [(op2 addD (kc (.int 4)) (v 9)), (kc (.int 0)), (kc (.int (-1))), (op2 addD (kc (.int 4)) (op2 modD (op2 addD (v 9) (kc (.int 1))) (v 4))), (op2 idxD (v 10) (v 9))]) (e := e) (g := fun k : Nat => D.int (0 + (k : Nat))) (g' := eA) (w := fun k => (⟨4 + k, 0, -1, 4 + (k + 1) % a, ds k⟩ : Ar)) (xs := List.range a) (by simp; omega)
      (fun k hk => ⟨.sh (eA ⟨4 + k, 0, -1, 4 + (k + 1) % a, ds k⟩), by
        have hk := List.mem_range.mp hk
        have q := dat k (by omega)
        simp [hl, h4, h10, q, pa, eA], rfl⟩) h9
    rw [rng_map, hA1]; exact this
  have c2 : ∀ (e : List DL.Slot), e[9]? = some .un → e[5]? = some (.sh (.int b)) → e[6]? = some (.sh (.int (4 + (a : Int)))) → e[12]? = some (.sh (.int ev)) → e[10]? = some (.sh (.lst (DS.map .int))) → compL 9 yesT (tupE [(op2 addD (v 6) (v 9)), (v 12), (kc (.int (-1))), (op2 addD (v 6) (op2 modD (op2 addD (v 9) (kc (.int 1))) (v 5))), (op2 idxD (v 10) (op2 addD (kc (.int 3)) (v 9)))]) (rngD 0 b) [] e = .ok (A2.map eA) e := by
    intro e h9 h5 h6 h12 h10
    obtain ⟨hl, _⟩ := List.getElem?_eq_some_iff.mp h9
    have := comp_all (ix := 9) (f := tupE [(op2 addD (v 6) (v 9)), (v 12), (kc (.int (-1))), (op2 addD (v 6) (op2 modD (op2 addD (v 9) (kc (.int 1))) (v 5))), (op2 idxD (v 10) (op2 addD (kc (.int 3)) (v 9)))]) (e := e) (g := fun k : Nat => D.int (0 + (k : Nat))) (g' := eA) (w := fun k => (⟨4 + a + k, ev, -1, 4 + a + (k + 1) % b, ds (3 + k)⟩ : Ar)) (xs := List.range b) (by simp; omega)
      (fun k hk => ⟨.sh (eA ⟨4 + a + k, ev, -1, 4 + a + (k + 1) % b, ds (3 + k)⟩), by
        have hk := List.mem_range.mp hk
        have q := dat (3 + k) (by omega)
        have q : atI (DS.map D.int) (3 + (k : Int)) = some (.int (ds (3 + k))) := by rw [← q]; congr 1
        simp [hl, h5, h6, h12, h10, q, pb, eA], rfl⟩) h9
    rw [rng_map, hA2]; exact this
  have na : Near (a : Int) := near_nat (by omega)
  have nb : Near (b : Int) := near_nat (by omega)
  have l1 : A1.length ≤ 3 := by rw [hA1]; simp; omega
  have l2 : A2.length ≤ 3 := by rw [hA2]; simp; omega
  have ad : ∀ xs ys : List D, xs.length ≤ 100 → ys.length ≤ 100 → addD (.lst xs) (.lst ys) = some (.fr (xs ++ ys)) := fun xs ys h1 h2 => if_pos (show xs.length + ys.length ≤ 100000 by omega)
  have eRR : (frR a b k2 k3).map eR = ([D.tup [.int (-1), .str "one"], .tup [.int 0, .str "all"], .tup [.int 1, .str k2], .tup [.int 1, .str k3]] ++ ((List.range a).map fun _ => (((2 : Int), ("plain" : Str)) : Rm)).map eR ++ ((List.range b).map fun _ => (((3 : Int), ("plain" : Str)) : Rm)).map eR) ++ [.tup [.int 0, .str "plain"]] := by
    unfold frR
    simp only [List.map_append, List.map_cons, List.map_nil, eR]
  have eAA : ∀ cb', (frA a b ds ev g1 t cb').map eA = A1.map eA ++ A2.map eA ++ [.tup [.int 1, .int 1, .int g1, .int (4 + (a : Int) + (b : Int)), .int (ds 6)]] ++ [.tup [.int (4 + (a : Int) + (b : Int)), .int 2, .int (-1), .int t1, .int (ds 7)]] ++ (if cb' = true then [.tup [.int 5, .int 3, .int (-1), .int (4 + (a : Int) + (b : Int)), .int 7], .tup [.int (4 + (a : Int) + 1), .int 3, .int (-1), .int (4 + (a : Int)), .int 8]] else []) := by
    intro cb'
    unfold frA
    rw [← hA1, ← hA2]
    cases cb' <;> simp [eA, ← ht]
  rw [eRR, eAA]
  obtain ⟨R1, hR1⟩ : ∃ R1, R1 = ((List.range a).map fun _ => (((2 : Int), ("plain" : Str)) : Rm)).map eR := ⟨_, rfl⟩
  obtain ⟨R2, hR2⟩ : ∃ R1, R1 = ((List.range b).map fun _ => (((3 : Int), ("plain" : Str)) : Rm)).map eR := ⟨_, rfl⟩
  have r1 : R1.length ≤ 3 := by rw [hR1]; simp; omega
  have r2 : R2.length ≤ 3 := by rw [hR2]; simp; omega
  have cp2 := cp a 2
  have cp3 := cp b 3
  rw [← hR1] at cp2 ⊢
  rw [← hR2] at cp3 ⊢
  have cp2 := fun e h => cp2 e a3' h
  have cp3 := fun e h => cp3 e b3' h
  obtain ⟨B1, hB1⟩ : ∃ B, B = A1.map eA := ⟨_, rfl⟩
  obtain ⟨B2, hB2⟩ : ∃ B, B = A2.map eA := ⟨_, rfl⟩
  have m1 : B1.length ≤ 3 := by rw [hB1]; simp; omega
  have m2 : B2.length ≤ 3 := by rw [hB2]; simp; omega
  rw [← hB1] at c1 ⊢
  rw [← hB2] at c2 ⊢
  have z0 : B1.length + B2.length < 100000 := by omega
  have z1 : B1.length + B2.length + 1 < 100000 := by omega
  have z2 : B1.length + B2.length + 1 + 1 < 100000 := by omega
  have z3 : B1.length + B2.length + 1 + 1 + 1 < 100000 := by omega
  have z4 : B1.length + (B2.length + 1) < 100000 := by omega
  have z5 : B1.length + (B2.length + 1 + 1) < 100000 := by omega
  have z6 : B1.length + (B2.length + 1 + 1 + 1) < 100000 := by omega
  have ad1 := ad [D.tup [.int (-1), .str "one"], .tup [.int 0, .str "all"], .tup [.int 1, .str k2], .tup [.int 1, .str k3]] R1 (by simp) (by omega)
  have ad2 := ad ([D.tup [.int (-1), .str "one"], .tup [.int 0, .str "all"], .tup [.int 1, .str k2], .tup [.int 1, .str k3]] ++ R1) R2 (by simp; omega) (by omega)
  have ad3 := ad ([D.tup [.int (-1), .str "one"], .tup [.int 0, .str "all"], .tup [.int 1, .str k2], .tup [.int 1, .str k3]] ++ R1 ++ R2) [.tup [.int 0, .str "plain"]] (by simp; omega) (by simp)
  have ad4 := ad B1 B2 (by omega) (by omega)
  simp only [List.cons_append, List.nil_append, List.append_assoc] at ad1 ad2 ad3 ad4
  cases cb with
  | false => simp [F__law_framed, B__law_framed, c0, ← ha, ← hb, a2, a3, ae, ag, at1, na, nb, cp2, cp3, cd, c1, c2, d6, d7, ad1, ad2, ad3, ad4, z0, z1, z2, z3, z4, z5, z6]
  | true =>
    by_cases hq : c / 432 % 3 = 1
    · simp [F__law_framed, B__law_framed, c0, ← ha, ← hb, a2, a3, ae, ag, at1, na, nb, cp2, cp3, cd, c1, c2, d6, d7, ad1, ad2, ad3, ad4, z0, z1, z2, z3, z4, z5, z6, hq]
    · simp [F__law_framed, B__law_framed, c0, ← ha, ← hb, a2, a3, ae, ag, at1, na, nb, cp2, cp3, cd, c1, c2, d6, d7, ad1, ad2, ad3, ad4, z0, z1, z2, z3, z4, z5, z6, hq]
end My
set_option Elab.async false
set_option linter.all false
set_option maxRecDepth 100000
set_option maxHeartbeats 4000000
set_option autoImplicit false
noncomputable section
namespace My
open PySem PySem.Spec L2 DL
open PyProof.Rows hiding St
/-! ### arrows taken at once -/
theorem pairOf_none {R : List Rm} {A : List Ar} {ns : List Nat} (hn : ∀ k ∈ ns, k < A.length) (h : pairOf R A ns = none) {k j : Nat} (hk : k ∈ ns) (hj : j ∈ ns) (lt : k < j) : nested R (ar A k) (ar A j) = false := by
  unfold pairOf at h
  have h1 := List.findSome?_eq_none_iff.mp h k hk
  have h2 := List.findSome?_eq_none_iff.mp h1 j hj
  unfold pairIn at h2
  rw [List.getElem?_eq_getElem (hn k hk), List.getElem?_eq_getElem (hn j hj)] at h2
  simp only at h2
  have e1 : ar A k = A[k]'(hn k hk) := by simp [ar, hn k hk]
  have e2 : ar A j = A[j]'(hn j hj) := by simp [ar, hn j hj]
  rw [e1, e2]
  cases q : nested R (A[k]'(hn k hk)) (A[j]'(hn j hj)) with
  | false => rfl
  | true => rw [if_pos ⟨lt, q⟩] at h2; cases h2
theorem nested_comm {R : List Rm} {a b : Ar} : nested R a b = nested R b a := by unfold nested; rw [Bool.or_comm]
theorem not_nested {R : List Rm} {a b : Ar} (h : nested R a b = false) : scA R b ∉ chain R (scA R a) ∧ scA R a ∉ chain R (scA R b) := by
  unfold nested at h
  simpa using h
section
variable {R : List Rm} {z z0 : Nat → Int} {A : List Ar}
/-- towards the goal all is kept -/
theorem reach_goal (W : WF R) {mz : Nat → Nat} {t r : Nat} (ht : t < R.length) : ∀ {k : Nat}, k ∈ chain R t → r ∈ chain R k → reach R (chz R mz t) r k = true := by
  intro k
  induction k using Nat.strongRecOn with
  | ind k ih =>
    intro hk hr
    have kl := chain_mem_lt W ht hk
    by_cases e : k = r
    · subst e; exact reach_self W kl
    · have rt : r ∈ (chain R k).tail := (chain_tail W kl).mpr ⟨hr, fun q => e q.symm⟩
      have h0 : 0 < k := by have := chain_lt W kl rt; omega
      have hl := hol_lt W h0 kl
      rw [tail_hol W h0 kl] at rt
      have ht2 := hol_tail W h0 kl
      have c2 := chain_trans W ht hk (List.mem_of_mem_tail ht2)
      refine (reach_iff W kl).mpr (.inr ⟨h0, ih _ hl c2 rt, ?_⟩)
      have hkk := W.hk k h0 kl
      have km : k ∈ kids R (hol R k).toNat := mem_kids.mpr ⟨kl, by omega⟩
      unfold op
      by_cases ha : knd R (hol R k).toNat = "all"
      · simp [ha]
      · have ho := knd_of_kid W (by omega) km ha
        have tw := (tow_some W ht).mpr ⟨km, hk⟩
        rw [chz_eq, tw]
        simp [ho]
structure SI (R : List Rm) (A : List Ar) (z0 : Nat → Int) (l : List Nat) : Prop where
  cho : Cho R (bz R A l z0)
  out : ∀ h, h < R.length → (∀ k ∈ l, scA R (ar A k) ∉ chain R h) → bz R A l z0 h = z0 h
  kp : ∀ h, h < R.length → knd R h = "keep" → bz R A l z0 h ≠ z0 h → reach R (zN (bz R A l z0)) 0 h = true
theorem SI.start (C : Cho R z0) : SI R A z0 [] := ⟨C, fun _ _ _ => rfl, fun _ _ _ n => absurd rfl n⟩
theorem bz_app {l : List Nat} {k : Nat} : bz R A (l ++ [k]) z0 = gz R (ar A k) (bz R A l z0) := by unfold bz; rw [List.foldl_append]; rfl
theorem SI.at_ (W : WF R) (hA : ∀ a ∈ A, GA R a) {l : List Nat} {k : Nat} (hk : k < A.length) (S : SI R A z0 l) (nn : ∀ b ∈ l, nested R (ar A b) (ar A k) = false) (hr : reach R (zN z0) 0 (scA R (ar A k)) = true) :
    (∀ h, h < R.length → scA R (ar A k) ∈ chain R h → bz R A l z0 h = z0 h) ∧ reach R (zN (bz R A l z0)) 0 (scA R (ar A k)) = true := by
  have gk := hA _ (ar_mem hk)
  have ml := scA_lt gk
  have far : ∀ h, h < R.length → scA R (ar A k) ∈ chain R h → ∀ b ∈ l, scA R (ar A b) ∉ chain R h := by
    intro h hh hm b hb hbm
    obtain ⟨n1, n2⟩ := not_nested (nn b hb)
    by_cases le : scA R (ar A k) ≤ scA R (ar A b)
    · exact n1 (chain_lin W hh hbm hm le)
    · exact n2 (chain_lin W hh hm hbm (by omega))
  refine ⟨fun h hh hm => S.out h hh (far h hh hm), ?_⟩
  rw [reach_agree W ml (c' := zN z0) fun j hj => ?_]
  · exact hr
  · unfold zN
    rw [S.out j (by have := chain_lt W ml hj; omega) fun b hb q => ?_]
    exact far _ ml (chain_self W ml) b hb (chain_trans W ml (List.mem_of_mem_tail hj) q)
theorem SI.step (W : WF R) (hA : ∀ a ∈ A, GA R a) {l : List Nat} {k : Nat} (hk : k < A.length) (C0 : Cho R z0) (S : SI R A z0 l) (nn : ∀ b ∈ l, nested R (ar A b) (ar A k) = false) (hr : reach R (zN z0) 0 (scA R (ar A k)) = true) : SI R A z0 (l ++ [k]) := by
  have gk := hA _ (ar_mem hk)
  obtain ⟨a1, a2⟩ := S.at_ W hA hk nn hr
  have hg := fun {h : Nat} (hh : h < R.length) => gone_reach W gk (mem_of W C0) S.cho (fun h hh hkp hm => by unfold zN; rw [a1 h hh (List.mem_of_mem_tail hm)]) a2 hh
  refine ⟨by rw [bz_app]; exact gz_cho W gk S.cho, fun h hh hn => ?_, fun h hh hkp hne => ?_⟩
  · rw [bz_app, gz_out W gk hh (hn k (by simp))]
    exact S.out h hh fun b hb => hn b (List.mem_append_left _ hb)
  · rw [bz_app] at hne ⊢
    have hnall : knd R h ≠ "all" := by rw [hkp]; decide
    refine (hg hh).mpr ?_
    by_cases hm : scA R (ar A k) ∈ chain R h
    · have zz := a1 h hh hm
      by_cases hhm : h = scA R (ar A k)
      · left
        refine ⟨?_, .inl hhm⟩
        rw [hhm]; exact a2
      · right
        cases tw : tow R (ar A k).tgt h with
        | none =>
          refine absurd ?_ hne
          rw [gz_none W gk hh tw, g1, if_neg fun q => ?_, zz]
          have := q.1
          rw [hkp] at this
          exact absurd this (by decide)
        | some j =>
          have hmt : scA R (ar A k) ∈ (chain R h).tail := (chain_tail W hh).mpr ⟨hm, fun q => hhm q.symm⟩
          obtain ⟨o1, o2, o3⟩ := scA_in W gk
          have hmm := (chz_ch W (mem_of W C0) (ar A k).tgt _ (scA_lt gk) o1)
          obtain ⟨r, r1, r2⟩ := kid_ex W gk.t o3
          have er : chz R (zN z0) (ar A k).tgt (scA R (ar A k)) = r := by rw [chz_eq, (tow_some W gk.t).mpr ⟨r1, r2⟩]
          rw [er]
          have ht : h ∈ chain R (ar A k).tgt := by
            have := (tow_some W gk.t).mp tw
            have jp := kids_pos W this.1
            have jl := mem_kids.mp this.1
            have : h ∈ (chain R j).tail := by rw [tail_hol W jp.1 jl.1, jl.2, Int.toNat_natCast]; exact chain_self W hh
            exact chain_trans W gk.t ((tow_some W gk.t).mp tw).2 (List.mem_of_mem_tail this)
          refine reach_goal W gk.t ht ?_
          obtain ⟨r', q1, q2⟩ := kid_ex W hh hmt
          have : r' = r := kid_uniq W gk.t q1 r1 (chain_trans W gk.t ht q2) r2
          rw [← this]; exact q2
    · left
      rw [gz_out W gk hh hm] at hne
      exact ⟨S.kp h hh hkp hne, .inr hm⟩
/-! ### a step -/
theorem rdy_asc {is : List Int} {ev : Int} : (rdy A is ev).Pairwise (· < ·) := filter_asc
theorem tks_asc {is : List Int} {ev : Int} : (tks R A is ev).Pairwise (· < ·) := List.Pairwise.filter _ rdy_asc
theorem tks_len {is : List Int} {ev : Int} : (tks R A is ev).length ≤ A.length := by
  unfold tks
  refine Nat.le_trans (List.length_filter_le ..) ?_
  unfold rdy
  refine Nat.le_trans (List.length_filter_le ..) ?_
  simp
theorem tks_open {is : List Int} {ev : Int} {k : Nat} (h : k ∈ tks R A is ev) : openA is ev (ar A k) = true := by
  have := (List.mem_filter.mp h).1
  unfold rdy at this
  exact (List.mem_filter.mp this).2
theorem tks_reach (W : WF R) (hA : ∀ a ∈ A, GA R a) {ev : Int} {k : Nat} (h : k ∈ tks R A ((asc R (zN z)).map cI) ev) : reach R (zN z) 0 (scA R (ar A k)) = true := by
  have ho := tks_open h
  have gk := hA _ (ar_mem (tks_lt h))
  simp only [openA, Bool.and_eq_true, decide_eq_true_eq] at ho
  obtain ⟨x, hx, ex⟩ := List.mem_map.mp ho.1
  have : x = (ar A k).src := by unfold cI at ex; omega
  subst this
  have hr := (asc_mem.mp hx).2
  obtain ⟨o1, o2, o3⟩ := scA_in W gk
  exact ((reach_split W (Nat.zero_le _) gk.s (List.mem_of_mem_tail o2)).mp hr).1
def dds (A : List Ar) (T : List Nat) : List Int := T.map fun k => (ar A k).deed
/-- the choice behind an event -/
def nxt (R : List Rm) (A : List Ar) (ev : Int) (z : Nat → Int) : Nat → Int := bz R A (tks R A ((asc R (zN z)).map cI) ev) z
def tkz (R : List Rm) (A : List Ar) (ev : Int) (z : Nat → Int) : List Nat := tks R A ((asc R (zN z)).map cI) ev
theorem tkz_nn (W : WF R) {ev : Int} (hp : pairOf R A (tkz R A ev z) = none) {l r : List Nat} {k : Nat} (hx : tkz R A ev z = l ++ k :: r) : ∀ b ∈ l, nested R (ar A b) (ar A k) = false := by
  intro b hb
  have hb' : b ∈ tkz R A ev z := by rw [hx]; exact List.mem_append_left _ hb
  have hk' : k ∈ tkz R A ev z := by rw [hx]; simp
  have srt : (tkz R A ev z).Pairwise (· < ·) := tks_asc
  rw [hx] at srt
  have := (List.pairwise_append.mp srt).2.2 b hb k (List.mem_cons_self ..)
  exact pairOf_none (fun k h => tks_lt h) hp hb' hk' this
theorem tkz_SI (W : WF R) (hA : ∀ a ∈ A, GA R a) (C : Cho R z) {ev : Int} (hp : pairOf R A (tkz R A ev z) = none) : ∀ (r l : List Nat), tkz R A ev z = l ++ r → SI R A z l → SI R A z (tkz R A ev z)
  | [], l, hx, S => by rw [hx, List.append_nil]; exact S
  | k :: r, l, hx, S => by
    have hk' : k ∈ tkz R A ev z := by rw [hx]; simp
    exact tkz_SI W hA C hp r (l ++ [k]) (by rw [hx]; simp) (S.step W hA (tks_lt hk') C (tkz_nn W hp hx) (tks_reach W hA hk'))
theorem stepped_eq (W : WF R) (hA : ∀ a ∈ A, GA R a) (hl : A.length < 1000) (C : Cho R z) {ev : Int} (hp : pairOf R A (tkz R A ev z) = none) :
    F_stepped [eC R (A.map eA), eSt (asc R (zN z)) (mems R z), .int ev] = .ok (.sh (.tup [eSt (asc R (zN (nxt R A ev z))) (mems R (nxt R A ev z)), .tup ((dds A (tkz R A ev z)).map .int)])) := by
  have t1 := takeable_eq W hA (inK_tup (ks := asc R (zN z))) (ev := ev) (by omega)
  obtain ⟨T, hT⟩ : ∃ T, T = tkz R A ev z := ⟨_, rfl⟩
  have SI0 := tkz_SI W hA C hp (tkz R A ev z) [] rfl (SI.start C)
  have nx : nxt R A ev z = bz R A T z := by rw [hT]; rfl
  have t1 : F_takeable [eC R (A.map eA), .tup ((asc R (zN z)).map nI), .int ev] = .ok (.fr ((tkz R A ev z).map nI)) := t1
  have hn : ∀ k ∈ T, k < A.length := fun k h => by rw [hT] at h; exact tks_lt h
  have Tl : T.length < 1000 := by rw [hT]; exact Nat.lt_of_le_of_lt tks_len hl
  have c1 := clash_eq W hA hn
  rw [hT, hp, ← hT] at c1
  rw [← hT] at t1 SI0
  rw [nx, ← hT]
  obtain ⟨K, hK⟩ : ∃ K, K = asc R (zN z) := ⟨_, rfl⟩
  obtain ⟨S, hS⟩ : ∃ S, S = D.tup [.tup (K.map nI), .tup ((mems R z).map .int)] := ⟨_, rfl⟩
  obtain ⟨e', q, j6, ow6, rfl⟩ := for_mapP (ix := 6) (body := L_stepped_1) (f := nI) (xs := T) (e := [.sh (eC R (A.map eA)), .sh S, .sh (.int ev), .sh (.lst (T.map nI)), .sh .non, .sh (.lst ((asc R (zN (bz R A [] z))).map nI)), .un, .un])
    (fun l e => ∃ j6, isOw j6 = false ∧ e = [.sh (eC R (A.map eA)), .sh S, .sh (.int ev), .sh (.lst (T.map nI)), .sh .non, .sh (.lst ((asc R (zN (bz R A l z))).map nI)), j6, .un])
    (by
      rintro l k r e hx ⟨j6, _, rfl⟩ Q hQ
      have hk' : k ∈ T := by rw [hx]; simp
      have gk := hA _ (ar_mem (hn k hk'))
      have Sl : SI R A z l := by
        have key : ∀ (r2 l2 : List Nat), l = l2 ++ r2 → SI R A z l2 → SI R A z l := by
          intro r2
          induction r2 with
          | nil => intro l2 h S; rw [h, List.append_nil]; exact S
          | cons b r2 ih =>
            intro l2 h S
            have hx2 : tkz R A ev z = l2 ++ b :: (r2 ++ k :: r) := by rw [← hT, hx, h]; simp
            have hb' : b ∈ tkz R A ev z := by rw [hx2]; simp
            exact ih (l2 ++ [b]) (by rw [h]; simp) (S.step W hA (tks_lt hb') C (tkz_nn W hp hx2) (tks_reach W hA hb'))
        exact key l [] rfl (SI.start C)
      rw [hT] at hx hk'
      obtain ⟨a1, a2⟩ := Sl.at_ W hA (tks_lt hk') (tkz_nn W hp hx) (tks_reach W hA hk')
      have go := gone_eq W (A := A.map eA) gk Sl.cho C (fun h hh hkp hm => by unfold zN; rw [a1 h hh (List.mem_of_mem_tail hm)]) a2
      have at_ := ar_at (tks_lt hk')
      rw [bz_app] at hQ
      obtain ⟨Y, hY⟩ : ∃ Y, Y = asc R (zN (bz R A l z)) := ⟨_, rfl⟩
      obtain ⟨Y1, hY1⟩ : ∃ Y, Y = asc R (zN (gz R (ar A k) (bz R A l z))) := ⟨_, rfl⟩
      rw [← hY] at go ⊢
      rw [← hY1] at go hQ
      rw [hS] at hQ ⊢
      simp only [eC, eRs] at go hQ ⊢
      simp [L_stepped_1, lkA, nI, at_, go]
      exact hQ _ ⟨_, rfl, rfl⟩)
    ⟨_, rfl, rfl⟩
  have rem := remembered_eq W (A := A.map eA) SI0.cho C SI0.kp
  have cm : ∀ e : List DL.Slot, e[6]? = some .un → e[0]? = some (.sh (eC R (A.map eA))) → compL 6 yesT (op2 idxD (op2 idxD (fldE "Chart" "arrows" (v 0)) (v 6)) (kc (.int 4))) (T.map nI) [] e = .ok ((dds A T).map .int) e := by
    intro e h6 h0
    obtain ⟨hl, _⟩ := List.getElem?_eq_some_iff.mp h6
    exact comp_all (ix := 6) (f := op2 idxD (op2 idxD (fldE "Chart" "arrows" (v 0)) (v 6)) (kc (.int 4))) (e := e) (g := nI) (g' := D.int) (w := fun k => (ar A k).deed) (xs := T) (by omega)
      (fun k hk => ⟨.sh (.int (ar A k).deed), by
        have at_ := ar_at (hn k hk)
        simp [hl, h0, nI, eC, lkA, at_, eA], rfl⟩) h6
  have b0 : bz R A [] z = z := rfl
  rw [b0] at q
  rw [← hK] at t1 q
  obtain ⟨M, hM⟩ : ∃ M, M = mems R z := ⟨_, rfl⟩
  obtain ⟨M2, hM2⟩ : ∃ M, M = mems R (bz R A T z) := ⟨_, rfl⟩
  obtain ⟨K2, hK2⟩ : ∃ K, K = asc R (zN (bz R A T z)) := ⟨_, rfl⟩
  obtain ⟨X, hX⟩ : ∃ X, X = dds A T := ⟨_, rfl⟩
  rw [← hM] at rem hS
  rw [← hM2] at rem
  rw [← hK2] at rem q
  rw [← hX] at cm
  rw [← hK2, ← hM2, ← hX, ← hK, ← hM]
  rw [hS] at q
  simp only [outP] at c1
  simp only [eC, eRs] at t1 c1 q cm rem
  simp [F_stepped, B_stepped, eC, eRs, eSt, t1, c1, q, cm, rem, ow6]
theorem stepped_ex (W : WF R) (hA : ∀ a ∈ A, GA R a) (hl : A.length < 1000) {ev : Int} {k j : Nat} (hp : pairOf R A (tkz R A ev z) = some (.sh (.tup [.int k, .int j]))) :
    F_stepped [eC R (A.map eA), eSt (asc R (zN z)) (mems R z), .int ev] = .ex "Clash" (some [("second", .int j), ("first", .int k), ("events", .tup [.int ev])]) := by
  have t1 : F_takeable [eC R (A.map eA), .tup ((asc R (zN z)).map nI), .int ev] = .ok (.fr ((tkz R A ev z).map nI)) := takeable_eq W hA (inK_tup (ks := asc R (zN z))) (ev := ev) (by omega)
  obtain ⟨T, hT⟩ : ∃ T, T = tkz R A ev z := ⟨_, rfl⟩
  have hn : ∀ k ∈ T, k < A.length := fun k h => by rw [hT] at h; exact tks_lt h
  have c1 := clash_eq W hA hn
  rw [hT, hp, ← hT] at c1
  rw [← hT] at t1
  obtain ⟨K, hK⟩ : ∃ K, K = asc R (zN z) := ⟨_, rfl⟩
  obtain ⟨M, hM⟩ : ∃ M, M = mems R z := ⟨_, rfl⟩
  rw [← hK] at t1 ⊢
  rw [← hM]
  simp only [outP] at c1
  simp only [eC, eRs] at t1 c1
  simp [F_stepped, B_stepped, eC, eRs, eSt, t1, c1, notND]
end
end My
set_option Elab.async false
set_option linter.all false
set_option maxRecDepth 100000
set_option maxHeartbeats 4000000
set_option autoImplicit false
noncomputable section
namespace My
open PySem PySem.Spec L2 DL
open PyProof.Rows hiding St
/-! ### a run, and what the law tells of it -/
theorem rngD_s {lo n : Nat} : rngD (lo : Int) (n + 1) = .int lo :: rngD ((lo + 1 : Nat) : Int) n := by
  rw [rng_map, rng_map, List.range_succ_eq_map, List.map_cons, List.map_map]
  congr 1
  refine List.map_congr_left fun k _ => ?_
  simp only [Function.comp]
  congr 1
  omega
theorem take_D {evs : List Int} {k : Nat} : (evs.map D.int).take k = (evs.take k).map D.int := by rw [List.map_take]
section
variable {R : List Rm} {A : List Ar} {z : Nat → Int} {evs : List Int}
theorem run_body (W : WF R) (hA : ∀ a ∈ A, GA R a) (hl : A.length < 1000) (C : Cho R z) {k : Nat} {ev : Int} (he : evs[k]? = some ev) {told : List (List Int)} (ht : told.length < 1000) {j5 j6 : DL.Slot} :
    (pairOf R A (tkz R A ev z) = none → ∃ j5' j6', L_run_1 [.sh (eC R (A.map eA)), .sh (.lst (evs.map .int)), .sh (eSt (asc R (zN z)) (mems R z)), .ow (told.map eT), .sh (.int k), j5, j6] =
      .ok .nx [.sh (eC R (A.map eA)), .sh (.lst (evs.map .int)), .sh (eSt (asc R (zN (nxt R A ev z))) (mems R (nxt R A ev z))), .ow ((told ++ [dds A (tkz R A ev z)]).map eT), .sh (.int k), j5', j6']) ∧
    (∀ a b : Nat, pairOf R A (tkz R A ev z) = some (.sh (.tup [.int a, .int b])) → ∃ e', L_run_1 [.sh (eC R (A.map eA)), .sh (.lst (evs.map .int)), .sh (eSt (asc R (zN z)) (mems R z)), .ow (told.map eT), .sh (.int k), j5, j6] =
      .ex "Clash" (some [("second", .int b), ("first", .int a), ("events", eT (evs.take (k + 1)))]) e') := by
  have hlen : k < evs.length := (List.getElem?_eq_some_iff.mp he).1
  have at_ : atI (evs.map D.int) (k : Int) = some (.int ev) := by rw [atI_map, DL.atI_nat, he]; rfl
  have t1 : F_takeable [eC R (A.map eA), .tup ((asc R (zN z)).map nI), .int ev] = .ok (.fr ((tkz R A ev z).map nI)) := takeable_eq W hA (inK_tup (ks := asc R (zN z))) (ev := ev) (by omega)
  have hn : ∀ k ∈ tkz R A ev z, k < A.length := fun k h => tks_lt h
  have c1 := clash_eq W hA hn
  refine ⟨fun hp => ?_, fun a b hp => ?_⟩
  · rw [hp] at c1
    have st := stepped_eq W hA hl C hp
    obtain ⟨T, hT⟩ : ∃ T, T = tkz R A ev z := ⟨_, rfl⟩
    rw [← hT] at t1 c1 st ⊢
    obtain ⟨K, hK⟩ : ∃ K, K = asc R (zN z) := ⟨_, rfl⟩
    obtain ⟨M, hM⟩ : ∃ M, M = mems R z := ⟨_, rfl⟩
    obtain ⟨K2, hK2⟩ : ∃ K, K = asc R (zN (nxt R A ev z)) := ⟨_, rfl⟩
    obtain ⟨M2, hM2⟩ : ∃ M, M = mems R (nxt R A ev z) := ⟨_, rfl⟩
    obtain ⟨X, hX⟩ : ∃ X, X = dds A T := ⟨_, rfl⟩
    rw [← hK] at t1 st ⊢
    rw [← hM] at st ⊢
    rw [← hK2, ← hM2] at st ⊢
    rw [← hX] at st ⊢
    simp only [outP] at c1
    simp only [eC, eRs, eSt] at t1 c1 st ⊢
    have hz : told.length < 100000 := by omega
    rw [List.map_append]
    have key : ∀ Q : List DL.Slot → Prop, (∀ j5' j6', Q [.sh (.ins "Chart" [("rooms", .lst (R.map eR)), ("arrows", .lst (A.map eA))]), .sh (.lst (evs.map .int)), .sh (.tup [.tup (K2.map nI), .tup (M2.map .int)]), .ow (told.map eT ++ [.tup (X.map .int)]), .sh (.int k), j5', j6']) →
        NxO (L_run_1 [.sh (.ins "Chart" [("rooms", .lst (R.map eR)), ("arrows", .lst (A.map eA))]), .sh (.lst (evs.map .int)), .sh (.tup [.tup (K.map nI), .tup (M.map .int)]), .ow (told.map eT), .sh (.int k), j5, j6]) Q := by
      intro Q hQ
      simp [L_run_1, at_, t1, c1, st, hz]
      exact hQ _ _
    obtain ⟨e', q1, j5', j6', rfl⟩ := nxo_out (key (fun e' => ∃ j5' j6', e' = [.sh (.ins "Chart" [("rooms", .lst (R.map eR)), ("arrows", .lst (A.map eA))]), .sh (.lst (evs.map .int)), .sh (.tup [.tup (K2.map nI), .tup (M2.map .int)]), .ow (told.map eT ++ [.tup (X.map .int)]), .sh (.int k), j5', j6']) fun _ _ => ⟨_, _, rfl⟩)
    exact ⟨j5', j6', q1⟩
  · rw [hp] at c1
    obtain ⟨T, hT⟩ : ∃ T, T = tkz R A ev z := ⟨_, rfl⟩
    rw [← hT] at t1 c1
    obtain ⟨K, hK⟩ : ∃ K, K = asc R (zN z) := ⟨_, rfl⟩
    obtain ⟨M, hM⟩ : ∃ M, M = mems R z := ⟨_, rfl⟩
    rw [← hK] at t1 ⊢
    rw [← hM]
    simp only [outP] at c1
    have sl : slcD none (some ((k : Int) + 1)) (.lst (evs.map .int)) = some (.fr ((evs.take (k + 1)).map .int)) := by
      have := slc_take (xs := evs.map D.int) (j := k + 1) (by simp; omega)
      rw [take_D] at this
      exact this
    simp only [eC, eRs, eSt] at t1 c1 ⊢
    refine exo_out ?_
    simp [L_run_1, at_, t1, c1, notND, sl, eT]
theorem told_body (W : WF R) (hA : ∀ a ∈ A, GA R a) (hl : A.length < 1000) (C : Cho R z) {k : Nat} {ev : Int} (he : evs[k]? = some ev) {told : List (List Int)} (ht : told.length < 1000) {j6 j7 : DL.Slot} :
    (pairOf R A (tkz R A ev z) = none → ∃ j6' j7', L__law_told_1 [.sh (eRs R), .sh (.lst (A.map eA)), .sh (.lst (evs.map .int)), .sh (.lst ((zL R z).map .int)), .ow (told.map eT), .sh (.int k), j6, j7, .un] =
      .ok .nx [.sh (eRs R), .sh (.lst (A.map eA)), .sh (.lst (evs.map .int)), .sh (.lst ((zL R (nxt R A ev z)).map .int)), .ow ((told ++ [dds A (tkz R A ev z)]).map eT), .sh (.int k), j6', j7', .un]) ∧
    (∀ a b : Nat, pairOf R A (tkz R A ev z) = some (.sh (.tup [.int a, .int b])) → ∃ e', L__law_told_1 [.sh (eRs R), .sh (.lst (A.map eA)), .sh (.lst (evs.map .int)), .sh (.lst ((zL R z).map .int)), .ow (told.map eT), .sh (.int k), j6, j7, .un] =
      .ok (.rt (.sh (.tup [eT (evs.take (k + 1)), .tup [.int a, .int b]]))) e') := by
  have hlen : k < evs.length := (List.getElem?_eq_some_iff.mp he).1
  have at_ : atI (evs.map D.int) (k : Int) = some (.int ev) := by rw [atI_map, DL.atI_nat, he]; rfl
  have k1 := lkept_eq W C
  have t1 : F__law_takeable [eRs R, .lst (A.map eA), .lst ((asc R (zN z)).map nI), .int ev] = .ok (.fr ((tkz R A ev z).map nI)) := ltakeable_eq W hA (inK_lst (ks := asc R (zN z))) (ev := ev) (by omega)
  have hn : ∀ k ∈ tkz R A ev z, k < A.length := fun k h => tks_lt h
  have p1 := lpair_eq W hA hn
  refine ⟨fun hp => ?_, fun a b hp => ?_⟩
  · rw [hp] at p1
    have b1 : F__law_behind [eRs R, .lst (A.map eA), .lst ((zL R z).map .int), .lst ((tkz R A ev z).map nI)] = .ok (.sh (.lst ((zL R (nxt R A ev z)).map .int))) := lbehind_eq W hA (z := z) hn
    have Tl : (tkz R A ev z).length < 1000 := Nat.lt_of_le_of_lt tks_len hl
    obtain ⟨T, hT⟩ : ∃ T, T = tkz R A ev z := ⟨_, rfl⟩
    rw [← hT] at t1 p1 b1 Tl hn ⊢
    have cm : ∀ e : List DL.Slot, e[8]? = some .un → e[1]? = some (.sh (.lst (A.map eA))) → compL 8 yesT (op2 idxD (op2 idxD (v 1) (v 8)) (kc (.int 4))) (T.map nI) [] e = .ok ((dds A T).map .int) e := by
      intro e h8 h1
      obtain ⟨hl, _⟩ := List.getElem?_eq_some_iff.mp h8
      exact comp_all (ix := 8) (f := op2 idxD (op2 idxD (v 1) (v 8)) (kc (.int 4))) (e := e) (g := nI) (g' := D.int) (w := fun k => (ar A k).deed) (xs := T) (by omega)
        (fun k hk => ⟨.sh (.int (ar A k).deed), by
          have at_ := ar_at (hn k hk)
          simp [hl, h1, nI, at_, eA], rfl⟩) h8
    obtain ⟨K, hK⟩ : ∃ K, K = asc R (zN z) := ⟨_, rfl⟩
    obtain ⟨Z, hZ⟩ : ∃ M, M = zL R z := ⟨_, rfl⟩
    obtain ⟨Z2, hZ2⟩ : ∃ K, K = zL R (nxt R A ev z) := ⟨_, rfl⟩
    obtain ⟨X, hX⟩ : ∃ X, X = dds A T := ⟨_, rfl⟩
    rw [← hK] at t1 k1
    rw [← hZ] at k1 b1 ⊢
    rw [← hZ2] at b1 ⊢
    rw [← hX] at cm ⊢
    simp only [outP] at p1
    simp only [eRs] at t1 p1 b1 k1 ⊢
    have hz : told.length < 100000 := by omega
    rw [List.map_append]
    have key : ∀ Q : List DL.Slot → Prop, (∀ j5' j6', Q [.sh (.lst (R.map eR)), .sh (.lst (A.map eA)), .sh (.lst (evs.map .int)), .sh (.lst (Z2.map .int)), .ow (told.map eT ++ [.tup (X.map .int)]), .sh (.int k), j5', j6', .un]) →
        NxO (L__law_told_1 [.sh (.lst (R.map eR)), .sh (.lst (A.map eA)), .sh (.lst (evs.map .int)), .sh (.lst (Z.map .int)), .ow (told.map eT), .sh (.int k), j6, j7, .un]) Q := by
      intro Q hQ
      simp [L__law_told_1, at_, k1, t1, p1, b1, cm, hz]
      exact hQ _ _
    obtain ⟨e', q1, j5', j6', rfl⟩ := nxo_out (key (fun e' => ∃ j5' j6', e' = [.sh (.lst (R.map eR)), .sh (.lst (A.map eA)), .sh (.lst (evs.map .int)), .sh (.lst (Z2.map .int)), .ow (told.map eT ++ [.tup (X.map .int)]), .sh (.int k), j5', j6', .un]) fun _ _ => ⟨_, _, rfl⟩)
    exact ⟨j5', j6', q1⟩
  · rw [hp] at p1
    obtain ⟨T, hT⟩ : ∃ T, T = tkz R A ev z := ⟨_, rfl⟩
    rw [← hT] at t1 p1
    obtain ⟨K, hK⟩ : ∃ K, K = asc R (zN z) := ⟨_, rfl⟩
    obtain ⟨Z, hZ⟩ : ∃ M, M = zL R z := ⟨_, rfl⟩
    rw [← hK] at t1 k1
    rw [← hZ] at k1 ⊢
    simp only [outP] at p1
    have sl : slcD none (some ((k : Int) + 1)) (.lst (evs.map .int)) = some (.fr ((evs.take (k + 1)).map .int)) := by
      have := slc_take (xs := evs.map D.int) (j := k + 1) (by simp; omega)
      rw [take_D] at this
      exact this
    simp only [eRs] at t1 p1 k1 ⊢
    refine rto_out ?_
    simp [L__law_told_1, at_, k1, t1, p1, notND, sl, eT]
theorem both_loops (W : WF R) (hA : ∀ a ∈ A, GA R a) (hl : A.length < 1000) (hev : evs.length < 1000) : ∀ (r pre : List Int) (z : Nat → Int) (told : List (List Int)) (i4 i5 i6 j5 j6 j7 : DL.Slot), evs = pre ++ r → Cho R z → told.length = pre.length → (∀ d ∈ told, d.length < 1000) →
    (∃ (z' : Nat → Int) (told' : List (List Int)), Cho R z' ∧ (told'.length = evs.length ∧ ∀ d ∈ told', d.length < 1000) ∧
      (∃ i4' i5' i6', forL 4 L_run_1 (rngD pre.length r.length) [.sh (eC R (A.map eA)), .sh (.lst (evs.map .int)), .sh (eSt (asc R (zN z)) (mems R z)), .ow (told.map eT), i4, i5, i6] =
        .ok .nx [.sh (eC R (A.map eA)), .sh (.lst (evs.map .int)), .sh (eSt (asc R (zN z')) (mems R z')), .ow (told'.map eT), i4', i5', i6']) ∧
      (∃ j5' j6' j7', forL 5 L__law_told_1 (rngD pre.length r.length) [.sh (eRs R), .sh (.lst (A.map eA)), .sh (.lst (evs.map .int)), .sh (.lst ((zL R z).map .int)), .ow (told.map eT), j5, j6, j7, .un] =
        .ok .nx [.sh (eRs R), .sh (.lst (A.map eA)), .sh (.lst (evs.map .int)), .sh (.lst ((zL R z').map .int)), .ow (told'.map eT), j5', j6', j7', .un])) ∨
    (∃ k a b : Nat, k < evs.length ∧
      (∃ e', forL 4 L_run_1 (rngD pre.length r.length) [.sh (eC R (A.map eA)), .sh (.lst (evs.map .int)), .sh (eSt (asc R (zN z)) (mems R z)), .ow (told.map eT), i4, i5, i6] =
        .ex "Clash" (some [("second", .int b), ("first", .int a), ("events", eT (evs.take (k + 1)))]) e') ∧
      (∃ e', forL 5 L__law_told_1 (rngD pre.length r.length) [.sh (eRs R), .sh (.lst (A.map eA)), .sh (.lst (evs.map .int)), .sh (.lst ((zL R z).map .int)), .ow (told.map eT), j5, j6, j7, .un] =
        .ok (.rt (.sh (.tup [eT (evs.take (k + 1)), .tup [.int a, .int b]]))) e')) := by
  intro r
  induction r with
  | nil =>
    intro pre z told i4 i5 i6 j5 j6 j7 hx C ht hd
    refine .inl ⟨z, told, C, ⟨by rw [ht, hx]; simp, hd⟩, ⟨i4, i5, i6, rfl⟩, ⟨j5, j6, j7, rfl⟩⟩
  | cons ev r ih =>
    intro pre z told i4 i5 i6 j5 j6 j7 hx C ht hd
    have he : evs[pre.length]? = some ev := by rw [hx]; simp
    have hpl : pre.length < evs.length := (List.getElem?_eq_some_iff.mp he).1
    obtain ⟨b1, b2⟩ := run_body W hA hl C he (told := told) (by omega) (j5 := i5) (j6 := i6)
    obtain ⟨l1, l2⟩ := told_body W hA hl C he (told := told) (by omega) (j6 := j6) (j7 := j7)
    rw [List.length_cons, rngD_s]
    cases hp : pairOf R A (tkz R A ev z) with
    | none =>
      obtain ⟨i5', i6', q1⟩ := b1 hp
      obtain ⟨j6', j7', q2⟩ := l1 hp
      have C2 : Cho R (nxt R A ev z) := bz_cho W hA _ _ (fun k h => tks_lt h) C
      have := ih (pre ++ [ev]) (nxt R A ev z) (told ++ [dds A (tkz R A ev z)]) (.sh (.int pre.length)) i5' i6' (.sh (.int pre.length)) j6' j7' (by rw [hx]; simp) C2 (by simp [ht]) (fun d hdm => by
        rcases List.mem_append.mp hdm with h | h
        · exact hd d h
        · simp at h
          subst h
          have : (tkz R A ev z).length ≤ A.length := tks_len
          simp [dds]
          omega)
      rw [show (pre ++ [ev]).length = pre.length + 1 by simp] at this
      rw [show forL 4 L_run_1 (D.int pre.length :: rngD ((pre.length + 1 : Nat) : Int) r.length) [.sh (eC R (A.map eA)), .sh (.lst (evs.map .int)), .sh (eSt (asc R (zN z)) (mems R z)), .ow (told.map eT), i4, i5, i6] = forL 4 L_run_1 (rngD ((pre.length + 1 : Nat) : Int) r.length) [.sh (eC R (A.map eA)), .sh (.lst (evs.map .int)), .sh (eSt (asc R (zN (nxt R A ev z))) (mems R (nxt R A ev z))), .ow ((told ++ [dds A (tkz R A ev z)]).map eT), .sh (.int pre.length), i5', i6'] from by
        simp only [forL, List.set_cons_succ, List.set_cons_zero]
        rw [q1]]
      rw [show forL 5 L__law_told_1 (D.int pre.length :: rngD ((pre.length + 1 : Nat) : Int) r.length) [.sh (eRs R), .sh (.lst (A.map eA)), .sh (.lst (evs.map .int)), .sh (.lst ((zL R z).map .int)), .ow (told.map eT), j5, j6, j7, .un] = forL 5 L__law_told_1 (rngD ((pre.length + 1 : Nat) : Int) r.length) [.sh (eRs R), .sh (.lst (A.map eA)), .sh (.lst (evs.map .int)), .sh (.lst ((zL R (nxt R A ev z)).map .int)), .ow ((told ++ [dds A (tkz R A ev z)]).map eT), .sh (.int pre.length), j6', j7', .un] from by
        simp only [forL, List.set_cons_succ, List.set_cons_zero]
        rw [q2]]
      exact this
    | some zz =>
      obtain ⟨a, b, rfl⟩ := pairOf_sh hp
      obtain ⟨e1, q1⟩ := b2 a b hp
      obtain ⟨e2, q2⟩ := l2 a b hp
      refine .inr ⟨pre.length, a, b, hpl, ⟨e1, ?_⟩, ⟨e2, ?_⟩⟩
      · simp only [forL, List.set_cons_succ, List.set_cons_zero]
        rw [q1]
      · simp only [forL, List.set_cons_succ, List.set_cons_zero]
        rw [q2]
theorem both_eq (W : WF R) (hA : ∀ a ∈ A, GA R a) (hl : A.length < 1000) (hev : evs.length < 1000) :
    (∃ (z : Nat → Int) (told : List (List Int)), Cho R z ∧ (told.length = evs.length ∧ ∀ d ∈ told, d.length < 1000) ∧ F_run [eC R (A.map eA), .lst (evs.map .int)] = .ok (.sh (.tup [eSt (asc R (zN z)) (mems R z), .lst (told.map eT)])) ∧
      F__law_told [eRs R, .lst (A.map eA), .lst (evs.map .int)] = .ok (.sh (.tup [.non, .tup [eSt (asc R (zN z)) (mems R z), .lst (told.map eT)]]))) ∨
    (∃ k a b : Nat, k < evs.length ∧ F_run [eC R (A.map eA), .lst (evs.map .int)] = .ex "Clash" (some [("second", .int b), ("first", .int a), ("events", eT (evs.take (k + 1)))]) ∧
      F__law_told [eRs R, .lst (A.map eA), .lst (evs.map .int)] = .ok (.sh (.tup [eT (evs.take (k + 1)), .tup [.int a, .int b]]))) := by
  have s1 := started_eq W (A := A.map eA)
  rw [← begin_eq W] at s1
  have f1 := lfirst_eq W
  have nn : Near (evs.length : Int) := ⟨by omega, by omega⟩
  have := both_loops W hA hl hev evs [] (fz R) [] .un .un .un .un .un .un rfl (fz_cho W) rfl (by simp)
  simp only [List.length_nil] at this
  obtain ⟨S0, hS0⟩ : ∃ S, S = eSt (asc R (zN (fz R))) (mems R (fz R)) := ⟨_, rfl⟩
  obtain ⟨Fz, hF⟩ : ∃ Fz, Fz = zL R (fz R) := ⟨_, rfl⟩
  rw [← hS0] at s1 this
  rw [← hF] at f1 this
  rcases this with ⟨z, told, C, ht, ⟨i4, i5, i6, q1⟩, ⟨j5, j6, j7, q2⟩⟩ | ⟨k, a, b, hk, ⟨e1, q1⟩, ⟨e2, q2⟩⟩
  · have l1 := lstate_eq W C
    refine .inl ⟨z, told, C, ht, ?_, ?_⟩
    · obtain ⟨S, hS⟩ : ∃ S, S = eSt (asc R (zN z)) (mems R z) := ⟨_, rfl⟩
      rw [← hS] at q1 ⊢
      have q1 : forL 4 L_run_1 (rngD 0 evs.length) [_, _, _, .ow [], _, _, _] = _ := q1
      simp only [eC, eRs] at s1 q1
      simp [F_run, B_run, eC, eRs, s1, nn, q1]
    · obtain ⟨S, hS⟩ : ∃ S, S = eSt (asc R (zN z)) (mems R z) := ⟨_, rfl⟩
      obtain ⟨Z, hZ⟩ : ∃ Z, Z = zL R z := ⟨_, rfl⟩
      rw [← hS] at l1 ⊢
      rw [← hZ] at l1 q2
      have q2 : forL 5 L__law_told_1 (rngD 0 evs.length) [_, _, _, _, .ow [], _, _, _, _] = _ := q2
      simp only [eRs] at f1 q2 l1
      simp [F__law_told, B__law_told, eRs, f1, nn, q2, l1]
  · refine .inr ⟨k, a, b, hk, ?_, ?_⟩
    · have q1 : forL 4 L_run_1 (rngD 0 evs.length) [_, _, _, .ow [], _, _, _] = _ := q1
      simp only [eC, eRs] at s1 q1
      simp [F_run, B_run, eC, eRs, s1, nn, q1]
    · have q2 : forL 5 L__law_told_1 (rngD 0 evs.length) [_, _, _, _, .ow [], _, _, _, _] = _ := q2
      simp only [eRs] at f1 q2
      simp [F__law_told, B__law_told, eRs, f1, nn, q2]
end
end My
set_option Elab.async false
set_option linter.all false
set_option maxRecDepth 100000
set_option maxHeartbeats 4000000
set_option autoImplicit false
noncomputable section
namespace My
open PySem PySem.Spec L2 DL
open PyProof.Rows hiding St
theorem rows_eq {ds : List (List Int)} (hl : ds.length < 1000000) (hd : ∀ d ∈ ds, d.length < 1000) : F__law_rows_same [.lst (ds.map eT), .lst (ds.map eT)] = .ok (.sh (.bl true)) := by
  obtain ⟨e', q, ⟨j2, rfl⟩⟩ := for_rngQ (ix := 2) (body := L__law_rows_same_1) (lo := 0) (n := ds.length) (e := [.sh (.lst (ds.map eT)), .sh (.lst (ds.map eT)), .un])
    (fun i e => ∃ j2, e = [.sh (.lst (ds.map eT)), .sh (.lst (ds.map eT)), j2])
    (by
      rintro i e hi ⟨j2, rfl⟩ Q hQ
      have hat : atI (ds.map eT) (i : Int) = some (.tup (ds[i].map .int)) := by rw [atI_map, DL.atI_nat, List.getElem?_eq_getElem hi]; rfl
      have r := row_eq (ds := ds[i]) (by have := hd ds[i] (List.getElem_mem hi); omega)
      simp [L__law_rows_same_1, hat, r]
      exact hQ _ ⟨_, rfl⟩)
    ⟨_, rfl⟩
  simp [F__law_rows_same, B__law_rows_same, near_nat hl, q]
theorem row2_eq {a b : Int} : F__law_row [.tup [.int a, .int b], .tup [.int a, .int b]] = .ok (.sh (.bl true)) := row_eq (ds := [a, b]) (by simp)
theorem state_same {R : List Rm} (W : WF R) {z : Nat → Int} : F__law_same_state [eSt (asc R (zN z)) (mems R z), eSt (asc R (zN z)) (mems R z)] = .ok (.sh (.bl true)) := by
  have := W.n2
  refine same_eq ?_ ?_
  · unfold asc
    exact Nat.lt_of_le_of_lt (List.length_filter_le ..) (by simp; omega)
  · simp [mems]; omega
end My
set_option Elab.async false
set_option linter.all false
set_option maxRecDepth 100000
set_option maxHeartbeats 4000000
set_option autoImplicit false
noncomputable section
namespace My
open PySem PySem.Spec L2 DL
open PyProof.Rows hiding St
/-! ### choices that are told by their state -/
def zOf (c : List Int) (k : Nat) : Int := c.getD k (-1)
theorem zOf_zL {R : List Rm} {z : Nat → Int} {k : Nat} (hk : k < R.length) : zOf (zL R z) k = z k := by simp [zOf, zL, hk]
theorem zL_zOf {R : List Rm} {c : List Int} (h : c.length = R.length) : zL R (zOf c) = c := by
  apply List.ext_getElem?
  intro k
  by_cases hk : k < R.length
  · have hc : k < c.length := by omega
    simp [zL, zOf, hk, hc]
  · simp [zL, hk]
    omega
section
variable {R : List Rm} {z z' : Nat → Int} {A : List Ar}
/-- a one room that is not kept is as at the beginning -/
def Nrm (R : List Rm) (z : Nat → Int) : Prop := ∀ h, h < R.length → knd R h = "one" → reach R (zN z) 0 h = false → z h = fz R h
theorem reach_zN (W : WF R) (h : ∀ k, k < R.length → z k = z' k) {r k : Nat} (hk : k < R.length) : reach R (zN z) r k = reach R (zN z') r k := reach_congr W (fun j hj _ => by unfold zN; rw [h j hj]) hk
theorem Cho.congr (C : Cho R z) (h : ∀ k, k < R.length → z k = z' k) : Cho R z' := ⟨fun k hk o => by rw [← h k hk]; exact C.two k hk o, fun k hk o => by rw [← h k hk]; exact C.els k hk o⟩
theorem Nrm.congr (W : WF R) (N : Nrm R z) (h : ∀ k, k < R.length → z k = z' k) : Nrm R z' := fun k hk ho hr => by
  rw [← h k hk]
  exact N k hk ho (by rw [reach_zN W h hk]; exact hr)
theorem asc_zN (W : WF R) (h : ∀ k, k < R.length → z k = z' k) : asc R (zN z) = asc R (zN z') := asc_congr W fun j hj _ => by unfold zN; rw [h j hj]
theorem mems_congr (h : ∀ k, k < R.length → z k = z' k) : mems R z = mems R z' := by
  unfold mems
  refine List.map_congr_left fun k hk => ?_
  unfold memI
  rw [h k (List.mem_range.mp hk)]
theorem fz_nrm : Nrm R (fz R) := fun _ _ _ _ => rfl
theorem SI.nrm (W : WF R) (hA : ∀ a ∈ A, GA R a) {z0 : Nat → Int} {l : List Nat} {k : Nat} (hk : k < A.length) (C0 : Cho R z0) (S : SI R A z0 l) (nn : ∀ b ∈ l, nested R (ar A b) (ar A k) = false) (hr : reach R (zN z0) 0 (scA R (ar A k)) = true)
    (N : Nrm R (bz R A l z0)) : Nrm R (bz R A (l ++ [k]) z0) := by
  have gk := hA _ (ar_mem hk)
  obtain ⟨a1, a2⟩ := S.at_ W hA hk nn hr
  have hg := fun {h : Nat} (hh : h < R.length) => gone_reach W gk (mem_of W C0) S.cho (fun h hh hkp hm => by unfold zN; rw [a1 h hh (List.mem_of_mem_tail hm)]) a2 hh
  intro h hh ho hnr
  rw [bz_app] at hnr ⊢
  have hnr' : ¬ reach R (zN (gz R (ar A k) (bz R A l z0))) 0 h = true := by rw [hnr]; simp
  rw [hg hh] at hnr'
  have hoo : ok2 (knd R h) = true := by rw [ho]; decide
  by_cases hm : scA R (ar A k) ∈ chain R h
  · by_cases hhm : h = scA R (ar A k)
    · exact absurd (.inl ⟨by rw [hhm]; exact a2, .inl hhm⟩) hnr'
    · have hmt : scA R (ar A k) ∈ (chain R h).tail := (chain_tail W hh).mpr ⟨hm, fun q => hhm q.symm⟩
      cases tw : tow R (ar A k).tgt h with
      | none => rw [gz_none W gk hh tw, g1, if_pos ⟨ho, hmt⟩]
      | some j =>
        refine absurd (.inr ?_) hnr'
        obtain ⟨o1, o2, o3⟩ := scA_in W gk
        obtain ⟨r, r1, r2⟩ := kid_ex W gk.t o3
        have er : chz R (zN z0) (ar A k).tgt (scA R (ar A k)) = r := by rw [chz_eq, (tow_some W gk.t).mpr ⟨r1, r2⟩]
        rw [er]
        have ht : h ∈ chain R (ar A k).tgt := by
          have := (tow_some W gk.t).mp tw
          have jp := kids_pos W this.1
          have jl := mem_kids.mp this.1
          have : h ∈ (chain R j).tail := by rw [tail_hol W jp.1 jl.1, jl.2, Int.toNat_natCast]; exact chain_self W hh
          exact chain_trans W gk.t ((tow_some W gk.t).mp tw).2 (List.mem_of_mem_tail this)
        refine reach_goal W gk.t ht ?_
        obtain ⟨r', q1, q2⟩ := kid_ex W hh hmt
        have : r' = r := kid_uniq W gk.t q1 r1 (chain_trans W gk.t ht q2) r2
        rw [← this]; exact q2
  · rw [gz_out W gk hh hm]
    refine N h hh ho ?_
    cases q : reach R (zN (bz R A l z0)) 0 h with
    | false => rfl
    | true => exact absurd (.inl ⟨q, .inr hm⟩) hnr'
theorem nxt_nrm (W : WF R) (hA : ∀ a ∈ A, GA R a) (C : Cho R z) (N : Nrm R z) {ev : Int} (hp : pairOf R A (tkz R A ev z) = none) : Nrm R (nxt R A ev z) := by
  have key : ∀ (r l : List Nat), tkz R A ev z = l ++ r → SI R A z l → Nrm R (bz R A l z) → Nrm R (bz R A (tkz R A ev z) z) := by
    intro r
    induction r with
    | nil => intro l hx S N; rw [hx, List.append_nil]; exact N
    | cons k r ih =>
      intro l hx S N
      have hk' : k ∈ tkz R A ev z := by rw [hx]; simp
      exact ih (l ++ [k]) (by rw [hx]; simp) (S.step W hA (tks_lt hk') C (tkz_nn W hp hx) (tks_reach W hA hk')) (S.nrm W hA (tks_lt hk') C (tkz_nn W hp hx) (tks_reach W hA hk') N)
  exact key _ [] rfl (SI.start C) N
theorem nxt_cho (W : WF R) (hA : ∀ a ∈ A, GA R a) (C : Cho R z) {ev : Int} : Cho R (nxt R A ev z) := bz_cho W hA _ _ (fun k h => tks_lt h) C
/-- what the beginning and a step leave -/
structure VC (R : List Rm) (c : List Int) : Prop where
  len : c.length = R.length
  cho : Cho R (zOf c)
  nrm : Nrm R (zOf c)
def stD (R : List Rm) (c : List Int) : D := eSt (asc R (zN (zOf c))) (mems R (zOf c))
theorem VC.mk' (W : WF R) (C : Cho R z) (N : Nrm R z) : VC R (zL R z) := ⟨zL_len, C.congr fun k hk => (zOf_zL hk).symm, N.congr W fun k hk => (zOf_zL hk).symm⟩
theorem stD_zL (W : WF R) : stD R (zL R z) = eSt (asc R (zN z)) (mems R z) := by
  unfold stD
  rw [asc_zN W fun k hk => zOf_zL hk, mems_congr fun k hk => zOf_zL hk]
theorem stD_inj (W : WF R) {c c' : List Int} (V : VC R c) (V' : VC R c') (h : stD R c = stD R c') : c = c' := by
  unfold stD eSt at h
  injection h with h
  injection h with h1 h2
  injection h1 with h1
  injection h2 with h2 _
  injection h2 with h2
  have e1 := nI_inj h1
  have e2 := int_inj h2
  have kept : ∀ k, k < R.length → (reach R (zN (zOf c)) 0 k = true ↔ reach R (zN (zOf c')) 0 k = true) := by
    intro k hk
    have := asc_mem (R := R) (c := zN (zOf c)) (k := k)
    rw [e1, asc_mem] at this
    constructor
    · intro q; exact (this.mpr ⟨hk, q⟩).2
    · intro q; exact (this.mp ⟨hk, q⟩).2
  rw [← zL_zOf V.len, ← zL_zOf V'.len]
  refine zL_congr fun h hh => ?_
  by_cases ho : ok2 (knd R h) = true
  · by_cases hkp : knd R h = "keep"
    · have : (mems R (zOf c))[h]? = (mems R (zOf c'))[h]? := by rw [e2]
      simpa [mems, hh, memI, hkp] using this
    · have h1 : knd R h = "one" := by
        simp [ok2] at ho
        rcases ho with ho | ho
        · exact ho
        · exact absurd ho hkp
      cases hr : reach R (zN (zOf c)) 0 h with
      | true =>
        obtain ⟨x1, x2⟩ := cho_nat V.cho hh ho
        obtain ⟨y1, y2⟩ := cho_nat V'.cho hh ho
        have m1 := mem_kids.mp x2
        have p1 := kids_pos W x2
        have r1 : reach R (zN (zOf c)) 0 (zN (zOf c) h) = true := (reach_iff W m1.1).mpr (.inr ⟨p1.1, by rw [m1.2, Int.toNat_natCast]; exact hr, by rw [op_at m1.2 ho]; simp⟩)
        have r2 := (kept _ m1.1).mp r1
        rcases (reach_iff W m1.1).mp r2 with e | ⟨_, _, e⟩
        · omega
        · rw [op_at m1.2 ho] at e
          simp at e
          rw [x1, y1, e]
      | false =>
        rw [V.nrm h hh h1 hr, V'.nrm h hh h1 ?_]
        cases q : reach R (zN (zOf c')) 0 h with
        | false => rfl
        | true => rw [(kept h hh).mpr q] at hr; cases hr
  · rw [V.cho.els h hh (by simpa using ho), V'.cho.els h hh (by simpa using ho)]
theorem stD_ok (c : List Int) : (stD R c).ok = true := by
  refine ok_of ?_ ?_
  · simp only [stD, eSt, D.pur, purL, Bool.and_true]
    rw [purL_map fun _ _ => rfl, purL_map fun _ _ => rfl]
    rfl
  · simp only [stD, eSt, D.dep, depL]
    have h1 := depL_map (f := nI) (xs := asc R (zN (zOf c))) (n := 0) (fun _ _ => Nat.le_refl 0)
    have h2 := depL_map (f := D.int) (xs := mems R (zOf c)) (n := 0) (fun _ _ => Nat.le_refl 0)
    omega
/-! ### how many there are -/
def opts (R : List Rm) (h : Nat) : List Int := if ok2 (knd R h) = true then (kids R h).map cI else [-1]
def cart : List (List Int) → List (List Int)
  | [] => [[]]
  | o :: os => o.flatMap fun x => (cart os).map fun r => x :: r
def prodL : List Nat → Nat
  | [] => 1
  | x :: xs => x * prodL xs
theorem cart_len : ∀ os : List (List Int), (cart os).length = prodL (os.map List.length)
  | [] => rfl
  | o :: os => by
    have ih := cart_len os
    simp only [cart, List.map_cons, prodL]
    rw [List.length_flatMap]
    simp only [List.length_map, ih]
    induction o with
    | nil => simp
    | cons x o ih2 => simp only [List.map_cons, List.sum_cons, ih2, List.length_cons]; rw [Nat.add_mul]; omega
theorem mem_cart : ∀ (os : List (List Int)) (c : List Int), c.length = os.length → (∀ k, k < c.length → ∃ o, os[k]? = some o ∧ ∃ x, c[k]? = some x ∧ x ∈ o) → c ∈ cart os
  | [], [], _, _ => by simp [cart]
  | [], _ :: _, h, _ => by simp at h
  | _ :: _, [], h, _ => by simp at h
  | o :: os, x :: c, hl, h => by
    simp only [cart, List.mem_flatMap, List.mem_map]
    obtain ⟨o', e1, y, e2, m⟩ := h 0 (by simp)
    simp at e1 e2
    subst e1 e2
    refine ⟨x, m, c, mem_cart os c (by simpa using hl) fun k hk => ?_, rfl⟩
    obtain ⟨o', e1, y, e2, m⟩ := h (k + 1) (by simp; omega)
    exact ⟨o', by simpa using e1, y, by simpa using e2, m⟩
def optsL (R : List Rm) : List (List Int) := (List.range R.length).map (opts R)
theorem VC.cart {c : List Int} (V : VC R c) : c ∈ cart (optsL R) := by
  refine mem_cart _ _ (by simp [optsL, V.len]) fun k hk => ?_
  rw [V.len] at hk
  have hc : k < c.length := by rw [V.len]; exact hk
  refine ⟨opts R k, by simp [optsL, hk], c[k], List.getElem?_eq_getElem hc, ?_⟩
  have ez : zOf c k = c[k] := by simp [zOf, hc]
  unfold opts
  by_cases ho : ok2 (knd R k) = true
  · rw [if_pos ho]
    obtain ⟨j, hj, e⟩ := V.cho.two k hk ho
    rw [← ez, e]
    exact List.mem_map.mpr ⟨j, hj, rfl⟩
  · rw [if_neg ho, ← ez, V.cho.els k hk (by simpa using ho)]
    simp
/-- there are at most so many -/
structure Bnd (R : List Rm) : Prop where
  le : prodL ((List.range R.length).map fun h => (opts R h).length) ≤ 18
theorem Bnd.len (B : Bnd R) {zs : List (List Int)} (nd : zs.Nodup) (V : ∀ c ∈ zs, VC R c) : zs.length ≤ 18 := by
  have h1 := List.Nodup.length_le_of_subset (l₂ := cart (optsL R)) nd fun c hc => (V c hc).cart
  rw [cart_len] at h1
  have : (optsL R).map List.length = (List.range R.length).map fun h => (opts R h).length := by simp [optsL]
  rw [this] at h1
  exact Nat.le_trans h1 B.le
def tab : List Nat := [1, 1, 2, 3, 4, 6, 9, 12, 18]
theorem tab_ok : ((List.range 9).all fun s => (List.range 9).all fun x => decide (x = 0) || (decide (s < x) || decide (x * tab.getD (s - x) 0 ≤ tab.getD s 0))) = true := by decide
theorem tab_mono : ((List.range 9).all fun s => decide (tab.getD s 0 ≤ 18)) = true := by decide
def sumL : List Nat → Nat
  | [] => 0
  | x :: xs => x + sumL xs
/-- w: the weight, 0 for what has no choice -/
theorem prod_le : ∀ (l : List (Nat × Nat)), (∀ p ∈ l, (p.2 = p.1 ∧ 1 ≤ p.1) ∨ (p.1 = 0 ∧ p.2 = 1)) → sumL (l.map (·.1)) ≤ 8 → prodL (l.map (·.2)) ≤ tab.getD (sumL (l.map (·.1))) 0
  | [], _, _ => by decide
  | (w, x) :: l, h, hs => by
    simp only [List.map_cons, sumL, prodL] at hs ⊢
    have ih := prod_le l (fun p hp => h p (List.mem_cons_of_mem _ hp)) (by omega)
    rcases h (w, x) (List.mem_cons_self ..) with ⟨h1, h2⟩ | ⟨h1, h2⟩
    · simp only at h1 h2
      subst h1
      have t := List.all_eq_true.mp (List.all_eq_true.mp tab_ok (x + sumL (l.map (·.1))) (List.mem_range.mpr (by omega))) x (List.mem_range.mpr (by omega))
      simp only [Bool.or_eq_true, decide_eq_true_eq] at t
      rcases t with t | t | t
      · omega
      · omega
      · rw [show x + sumL (l.map (·.1)) - x = sumL (l.map (·.1)) by omega] at t
        exact Nat.le_trans (Nat.mul_le_mul_left _ ih) t
    · simp only at h1 h2
      subst h1 h2
      simpa using ih
theorem sumL_map_le {l : List Nat} {f g : Nat → Nat} (h : ∀ x ∈ l, f x ≤ g x) : sumL (l.map f) ≤ sumL (l.map g) := by
  induction l with
  | nil => exact Nat.le_refl _
  | cons x l ih =>
    simp only [List.map_cons, sumL]
    have := h x (List.mem_cons_self ..)
    have := ih fun y hy => h y (List.mem_cons_of_mem _ hy)
    omega
theorem sumL_add {l : List Nat} {f g : Nat → Nat} : sumL (l.map fun x => f x + g x) = sumL (l.map f) + sumL (l.map g) := by
  induction l with
  | nil => rfl
  | cons x l ih => simp only [List.map_cons, sumL, ih]; omega
theorem one_hit {n : Nat} {y : Int} : ∀ (l : List Nat), l.Nodup → sumL (l.map fun h : Nat => if y = (h : Int) then 1 else 0) ≤ 1
  | [], _ => by simp [sumL]
  | x :: l, nd => by
    simp only [List.map_cons, sumL]
    obtain ⟨n1, n2⟩ := List.nodup_cons.mp nd
    have ih := one_hit (n := n) (y := y) l n2
    by_cases e : y = (x : Int)
    · rw [if_pos e]
      have : sumL (l.map fun h : Nat => if y = (h : Int) then 1 else 0) ≤ sumL (l.map fun _ => 0) := sumL_map_le fun h hh => by
        rw [if_neg]
        · exact Nat.le_refl _
        · intro q
          have : h = x := by omega
          subst this
          exact n1 hh
      have z : ∀ l : List Nat, sumL (l.map fun _ => 0) = 0 := fun l => by induction l with
        | nil => rfl
        | cons x l ih => simp only [List.map_cons, sumL, ih]
      rw [z] at this
      omega
    · rw [if_neg e]; omega
theorem kids_sum (W : WF R) : ∀ m, 1 ≤ m → sumL ((List.range R.length).map fun h : Nat => ((List.range m).filter fun j => decide (hol R j = (h : Int))).length) ≤ m - 1 := by
  intro m
  induction m with
  | zero => intro h; omega
  | succ m ih =>
    intro _
    have sp : ∀ h : Nat, ((List.range (m + 1)).filter fun j => decide (hol R j = (h : Int))).length = ((List.range m).filter fun j => decide (hol R j = (h : Int))).length + (if hol R m = (h : Int) then 1 else 0) := by
      intro h
      rw [filter_succ, List.length_append]
      by_cases e : hol R m = (h : Int) <;> simp [e]
    simp only [sp]
    rw [sumL_add]
    have h1 := one_hit (n := 0) (y := hol R m) (List.range R.length) List.nodup_range
    by_cases hm : 1 ≤ m
    · have := ih hm
      omega
    · have : m = 0 := by omega
      subst this
      have z1 : sumL ((List.range R.length).map fun h : Nat => if hol R 0 = (h : Int) then 1 else 0) ≤ sumL ((List.range R.length).map fun _ => 0) := sumL_map_le fun h _ => by
        rw [if_neg]
        · exact Nat.le_refl _
        · rw [W.h0]; omega
      have z : ∀ l : List Nat, sumL (l.map fun _ => 0) = 0 := fun l => by induction l with
        | nil => rfl
        | cons x l ih => simp only [List.map_cons, sumL, ih]
      rw [z] at z1
      have z2 : sumL ((List.range R.length).map fun h : Nat => ((List.range 0).filter fun j => decide (hol R j = (h : Int))).length) = 0 := by simp [z]
      omega
theorem bnd_9 (W : WF R) (h9 : R.length ≤ 9) : Bnd R := by
  have n1 := W.n1
  refine ⟨?_⟩
  have := prod_le ((List.range R.length).map fun h => ((if ok2 (knd R h) = true then (kids R h).length else 0), (opts R h).length)) (fun p hp => by
    obtain ⟨h, hh, rfl⟩ := List.mem_map.mp hp
    have hl := List.mem_range.mp hh
    unfold opts
    by_cases ho : ok2 (knd R h) = true
    · simp only [if_pos ho]
      left
      refine ⟨by simp, ?_⟩
      have := kids_ne W hl (ok2_ne ho)
      exact List.length_pos_iff.mpr this
    · simp only [if_neg ho]
      right
      simp)
  have s : sumL ((List.range R.length).map fun h => (if ok2 (knd R h) = true then (kids R h).length else 0)) ≤ 8 := by
    have := kids_sum W R.length n1
    have le : sumL ((List.range R.length).map fun h => (if ok2 (knd R h) = true then (kids R h).length else 0)) ≤ sumL ((List.range R.length).map fun h : Nat => ((List.range R.length).filter fun j => decide (hol R j = (h : Int))).length) := sumL_map_le fun h _ => by
      split
      · exact Nat.le_refl _
      · exact Nat.zero_le _
    omega
  simp only [List.map_map, Function.comp_def] at this
  have t := this s
  have m := List.all_eq_true.mp tab_mono _ (List.mem_range.mpr (show sumL ((List.range R.length).map fun h => (if ok2 (knd R h) = true then (kids R h).length else 0)) < 9 by omega))
  simp only [decide_eq_true_eq] at m
  exact Nat.le_trans t m
end
end My
set_option Elab.async false
set_option linter.all false
set_option maxRecDepth 100000
set_option maxHeartbeats 4000000
set_option autoImplicit false
noncomputable section
namespace My
open PySem PySem.Spec L2 DL
open PyProof.Rows hiding St
/-! ### folded -/
structure ExN (o : Out Fl) (c : Str) : Prop where
  h : match o with
  | .ex c' none _ => c' = c
  | _ => False
@[simp] theorem exn_ex {c c' : Str} {e : List DL.Slot} : ExN (.ex c' none e) c ↔ c' = c := ⟨fun z => z.1, fun z => ⟨z⟩⟩
theorem exn_out {o : Out Fl} {c : Str} (h : ExN o c) : ∃ e', o = .ex c none e' := by
  have h := h.h
  split at h
  · subst h; exact ⟨_, rfl⟩
  · exact h.elim
def pairN (R : List Rm) (A : List Ar) (ns : List Nat) : Option (Nat × Nat) := ns.findSome? fun k => ns.findSome? fun j => if k < j ∧ nested R (ar A k) (ar A j) = true then some (k, j) else none
def eP (p : Nat × Nat) : RV := .sh (.tup [.int p.1, .int p.2])
theorem findSome_map {α β γ : Type} {f : α → Option β} {g : α → Option γ} {h : β → γ} : ∀ {l : List α}, (∀ x ∈ l, g x = (f x).map h) → l.findSome? g = (l.findSome? f).map h
  | [], _ => rfl
  | x :: l, H => by
    rw [List.findSome?_cons, List.findSome?_cons, H x (List.mem_cons_self ..)]
    cases f x with
    | some y => rfl
    | none => exact findSome_map fun y hy => H y (List.mem_cons_of_mem _ hy)
theorem pairOf_N {R : List Rm} {A : List Ar} {ns : List Nat} (hn : ∀ k ∈ ns, k < A.length) : pairOf R A ns = (pairN R A ns).map eP := by
  refine findSome_map fun k hk => findSome_map fun j hj => ?_
  unfold pairIn
  rw [List.getElem?_eq_getElem (hn k hk), List.getElem?_eq_getElem (hn j hj)]
  have e1 : ar A k = A[k]'(hn k hk) := by simp [ar, hn k hk]
  have e2 : ar A j = A[j]'(hn j hj) := by simp [ar, hn j hj]
  simp only [e1, e2]
  by_cases c : k < j ∧ nested R (A[k]'(hn k hk)) (A[j]'(hn j hj)) = true
  · rw [if_pos c, if_pos c]; rfl
  · rw [if_neg c, if_neg c]; rfl
inductive FR where
  | ok (zs ws : List (List Int)) (row : Rw) | cl (w : List Int) (a b : Nat) | many
def clp (R : List Rm) (A : List Ar) (ev : Int) (c : List Int) : Option (Nat × Nat) := pairN R A (tkz R A ev (zOf c))
def gop (R : List Rm) (A : List Ar) (ev : Int) (c : List Int) : List Int := zL R (nxt R A ev (zOf c))
def dop (R : List Rm) (A : List Ar) (ev : Int) (c : List Int) : List Int := dds A (tkz R A ev (zOf c))
/-- the events of one state -/
def fev (R : List Rm) (A : List Ar) (here : Nat) : List Int → List (List Int) → List (List Int) → Rw → FR
  | [], zs, ws, row => .ok zs ws row
  | ev :: r, zs, ws, row => match clp R A ev (zs.getD here []) with
    | some p => .cl (ws.getD here [] ++ [ev]) p.1 p.2
    | none => if gop R A ev (zs.getD here []) ∈ zs then fev R A here r zs ws (row ++ [(zs.idxOf (gop R A ev (zs.getD here [])), dop R A ev (zs.getD here []))])
      else if zs.length = 30 then .many else fev R A here r (zs ++ [gop R A ev (zs.getD here [])]) (ws ++ [ws.getD here [] ++ [ev]]) (row ++ [(zs.length, dop R A ev (zs.getD here []))])
inductive FW where
  | ok (zs ws : List (List Int)) (rows : List Rw) | cl (w : List Int) (a b : Nat) | many | st
def fwh (R : List Rm) (A : List Ar) : Nat → List (List Int) → List (List Int) → List Rw → FW
  | 0, _, _, _ => .st
  | n + 1, zs, ws, rows => if rows.length < zs.length then (match fev R A rows.length [0, 1, 2, 3] zs ws [] with
    | .ok zs' ws' row => fwh R A n zs' ws' (rows ++ [row])
    | .cl w a b => .cl w a b
    | .many => .many) else .ok zs ws rows
def fold0 (R : List Rm) (A : List Ar) : FW := fwh R A 31 [zL R (fz R)] [[]] []
structure FI (R : List Rm) (zs ws : List (List Int)) : Prop where
  nd : zs.Nodup
  vc : ∀ c ∈ zs, VC R c
  wl : ws.length = zs.length
  ww : ∀ (i : Nat) (w : List Int), ws[i]? = some w → w.length ≤ i
  le : zs.length ≤ 30
section
variable {R : List Rm} {A : List Ar}
theorem clp_none {ev : Int} {c : List Int} (h : clp R A ev c = none) : pairOf R A (tkz R A ev (zOf c)) = none := by
  rw [pairOf_N (ns := tkz R A ev (zOf c)) fun k h => tks_lt h]
  unfold clp at h
  rw [h]; rfl
theorem clp_some {ev : Int} {c : List Int} {p : Nat × Nat} (h : clp R A ev c = some p) : pairOf R A (tkz R A ev (zOf c)) = some (.sh (.tup [.int p.1, .int p.2])) := by
  rw [pairOf_N (ns := tkz R A ev (zOf c)) fun k h => tks_lt h]
  unfold clp at h
  rw [h]; rfl
theorem gop_vc (W : WF R) (hA : ∀ a ∈ A, GA R a) {ev : Int} {c : List Int} (V : VC R c) (h : clp R A ev c = none) : VC R (gop R A ev c) := VC.mk' W (nxt_cho W hA V.cho) (nxt_nrm W hA V.cho V.nrm (clp_none h))
theorem FI.getD {zs ws : List (List Int)} (I : FI R zs ws) {k : Nat} (hk : k < zs.length) : zs.getD k [] ∈ zs := by
  rw [List.getD_eq_getElem?_getD, List.getElem?_eq_getElem hk]
  exact List.getElem_mem hk
theorem FI.add (W : WF R) (hA : ∀ a ∈ A, GA R a) {zs ws : List (List Int)} (I : FI R zs ws) {here : Nat} (hh : here < zs.length) {ev : Int} (hc : clp R A ev (zs.getD here []) = none) (hn : gop R A ev (zs.getD here []) ∉ zs) (h30 : zs.length ≠ 30) :
    FI R (zs ++ [gop R A ev (zs.getD here [])]) (ws ++ [ws.getD here [] ++ [ev]]) := by
  refine ⟨List.nodup_append.mpr ⟨I.nd, by simp, fun a ha b hb e => ?_⟩, fun c hm => ?_, by simp [I.wl], fun i w hw => ?_, by have := I.le; simp; omega⟩
  · simp at hb
    subst hb
    subst e
    exact hn ha
  · rcases List.mem_append.mp hm with h | h
    · exact I.vc c h
    · simp at h
      subst h
      exact gop_vc W hA (I.vc _ (I.getD hh)) hc
  · by_cases hi : i < ws.length
    · rw [List.getElem?_append_left hi] at hw
      exact I.ww i w hw
    · rw [List.getElem?_append_right (by omega)] at hw
      have : i - ws.length = 0 := by
        cases q : i - ws.length with
        | zero => rfl
        | succ n => rw [q] at hw; simp at hw
      rw [this] at hw
      simp at hw
      subst hw
      have hhw : here < ws.length := by rw [I.wl]; exact hh
      have e : ws[here]?.getD [] = ws[here] := by simp [hhw]
      have := I.ww here _ (List.getElem?_eq_getElem hhw)
      rw [List.length_append, e]
      simp
      omega
theorem stL_ok {zs : List (List Int)} : (D.lst (zs.map (stD R))).ok = true := by
  refine ok_of ?_ ?_
  · simp only [D.pur]
    refine purL_map fun c _ => ?_
    have := stD_ok (R := R) c
    simp [D.ok] at this
    exact this.1
  · simp only [D.dep]
    have := depL_map (f := stD R) (xs := zs) (n := 2) (fun c _ => by
      simp only [stD, eSt, D.dep, depL]
      have h1 := depL_map (f := nI) (xs := asc R (zN (zOf c))) (n := 0) (fun _ _ => Nat.le_refl 0)
      have h2 := depL_map (f := D.int) (xs := mems R (zOf c)) (n := 0) (fun _ _ => Nat.le_refl 0)
      omega)
    omega
theorem mem_st (W : WF R) {zs : List (List Int)} (hz : ∀ c ∈ zs, VC R c) {c : List Int} (V : VC R c) : stD R c ∈ zs.map (stD R) ↔ c ∈ zs := by
  rw [List.mem_map]
  constructor
  · rintro ⟨c', h1, h2⟩
    rw [← stD_inj W (hz c' h1) V h2]; exact h1
  · intro h; exact ⟨c, h, rfl⟩
theorem nin_st (W : WF R) {zs : List (List Int)} (hz : ∀ c ∈ zs, VC R c) {c : List Int} (V : VC R c) : ninD (stD R c) (.lst (zs.map (stD R))) = some (.sh (.bl (!decide (c ∈ zs)))) := by
  have hf : flat (stD R c) = false := rfl
  show (inB _ _).map _ = _
  unfold inB
  simp only [hf, Bool.false_and, stD_ok, stL_ok, Bool.and_self, Bool.false_eq_true, if_false, if_true, Option.map_some, mem_st W hz V]
theorem first_st (W : WF R) : ∀ {zs : List (List Int)} (hz : ∀ c ∈ zs, VC R c) {c : List Int} (V : VC R c), c ∈ zs → firstIx (stD R c) (zs.map (stD R)) = some (zs.idxOf c)
  | [], _, _, _, h => by cases h
  | y :: zs, hz, c, V, h => by
    rw [List.map_cons]
    unfold firstIx
    rw [List.idxOf_cons]
    by_cases e : y = c
    · subst e; simp
    · have : ¬ (stD R y = stD R c) := fun q => e (stD_inj W (hz y (List.mem_cons_self ..)) V q)
      rw [if_neg this, first_st W (fun c hc => hz c (List.mem_cons_of_mem _ hc)) V (by simpa [Ne.symm e] using h)]
      have : (y == c) = false := by simp [e]
      simp [this]
theorem index_st (W : WF R) {zs : List (List Int)} (hz : ∀ c ∈ zs, VC R c) {c : List Int} (V : VC R c) (h : c ∈ zs) : indexD (.lst (zs.map (stD R))) [stD R c] = some (.sh (.int (zs.idxOf c : Nat))) := by
  show (if _ then _ else _) = _
  rw [if_pos (by rw [stD_ok, stL_ok]; rfl), first_st W hz V h]
  rfl
theorem idx_new {zs : List (List Int)} {c : List Int} (h : c ∉ zs) : (zs ++ [c]).idxOf c = zs.length := by
  rw [List.idxOf_append, if_neg h]
  simp
theorem add_way {w : List Int} {ev : Int} (h : w.length < 1000) : addD (eT w) (.tup [.int ev]) = some (.sh (eT (w ++ [ev]))) := by
  unfold eT
  rw [List.map_append]
  exact if_pos (show (w.map D.int).length + [D.int ev].length ≤ 100000 by simp; omega)
/-- the program's row -/
theorem fold_row (W : WF R) (hA : ∀ a ∈ A, GA R a) (hl : A.length < 1000) {j3 : DL.Slot} {here : Nat} : ∀ (evs : List Int) (zs ws : List (List Int)) (row : Rw) (j6 j7 j8 : DL.Slot), FI R zs ws → here < zs.length → row.length + evs.length ≤ 4 →
    match fev R A here evs zs ws row with
    | .ok zs' ws' row' => ∃ j6' j7' j8', forL 6 L_folded_2 (evs.map .int) [.sh (eC R (A.map eA)), .ow (zs.map (stD R)), .ow (ws.map eT), j3, .sh (.int here), .ow (row.map eE), j6, j7, j8] =
        .ok .nx [.sh (eC R (A.map eA)), .ow (zs'.map (stD R)), .ow (ws'.map eT), j3, .sh (.int here), .ow (row'.map eE), j6', j7', j8']
    | .cl w a b => ∃ e', forL 6 L_folded_2 (evs.map .int) [.sh (eC R (A.map eA)), .ow (zs.map (stD R)), .ow (ws.map eT), j3, .sh (.int here), .ow (row.map eE), j6, j7, j8] = .ex "Clash" (some [("second", .int b), ("first", .int a), ("events", eT w)]) e'
    | .many => ∃ e', forL 6 L_folded_2 (evs.map .int) [.sh (eC R (A.map eA)), .ow (zs.map (stD R)), .ow (ws.map eT), j3, .sh (.int here), .ow (row.map eE), j6, j7, j8] = .ex "TooMany" none e'
  | [], zs, ws, row, j6, j7, j8, I, hh, hr => ⟨j6, j7, j8, rfl⟩
  | ev :: r, zs, ws, row, j6, j7, j8, I, hh, hr => by
    obtain ⟨c, hc⟩ : ∃ c, c = zs.getD here [] := ⟨_, rfl⟩
    obtain ⟨w, hw⟩ : ∃ w, w = ws.getD here [] := ⟨_, rfl⟩
    have V : VC R c := by rw [hc]; exact I.vc _ (I.getD hh)
    have hhw : here < ws.length := by rw [I.wl]; exact hh
    have wlen : w.length < 1000 := by
      have e : ws.getD here [] = ws[here] := by simp [hhw]
      have := I.ww here _ (List.getElem?_eq_getElem hhw)
      have := I.le
      rw [hw, e]
      omega
    have atz : atI (zs.map (stD R)) (here : Int) = some (stD R c) := by rw [atI_map, DL.atI_nat, hc, List.getElem?_eq_getElem hh]; simp [hh]
    have atw : atI (ws.map eT) (here : Int) = some (eT w) := by rw [atI_map, DL.atI_nat, hw, List.getElem?_eq_getElem hhw]; simp [hhw]
    have t1 : F_takeable [eC R (A.map eA), .tup ((asc R (zN (zOf c))).map nI), .int ev] = .ok (.fr ((tkz R A ev (zOf c)).map nI)) := takeable_eq W hA (inK_tup (ks := asc R (zN (zOf c)))) (ev := ev) (by omega)
    have hn : ∀ k ∈ tkz R A ev (zOf c), k < A.length := fun k h => tks_lt h
    have c1 := clash_eq W hA hn
    have s0 : idxD (stD R c) (.int 0) = some (.sh (.tup ((asc R (zN (zOf c))).map nI))) := by
      simp only [stD, eSt, o_idxT, atI_0, Option.map_some]
    rw [List.map_cons]
    unfold fev
    rw [← hc, ← hw]
    cases hp : clp R A ev c with
    | some p =>
      dsimp only
      rw [clp_some hp] at c1
      have aw := add_way (w := w) (ev := ev) wlen
      obtain ⟨K, hK⟩ : ∃ K, K = asc R (zN (zOf c)) := ⟨_, rfl⟩
      obtain ⟨T, hT⟩ : ∃ K, K = tkz R A ev (zOf c) := ⟨_, rfl⟩
      obtain ⟨S, hS⟩ : ∃ S, S = stD R c := ⟨_, rfl⟩
      rw [← hK] at t1 s0
      rw [← hT] at t1 c1
      rw [← hS] at atz s0
      obtain ⟨Wd, hWd⟩ : ∃ S, S = eT w := ⟨_, rfl⟩
      rw [← hWd] at atw aw
      obtain ⟨We, hWe⟩ : ∃ S, S = eT (w ++ [ev]) := ⟨_, rfl⟩
      rw [← hWe] at aw ⊢
      obtain ⟨a, b⟩ := p
      simp only [outP] at c1
      simp only [eC, eRs] at t1 c1 ⊢
      simp only [forL, List.set_cons_succ, List.set_cons_zero]
      have key := exo_out (c := "Clash") (fs := [("second", .int b), ("first", .int a), ("events", We)]) (o := L_folded_2 [.sh (.ins "Chart" [("rooms", .lst (R.map eR)), ("arrows", .lst (A.map eA))]), .ow (zs.map (stD R)), .ow (ws.map eT), j3, .sh (.int here), .ow (row.map eE), .sh (.int ev), j7, j8]) (by
        simp [L_folded_2, atz, s0, t1, c1, notND, atw, aw])
      obtain ⟨e', q⟩ := key
      exact ⟨e', by rw [q]⟩
    | none =>
      dsimp only
      rw [clp_none hp] at c1
      have st := stepped_eq W hA hl V.cho (clp_none hp)
      have Vn := gop_vc W hA V hp
      rw [show eSt (asc R (zN (nxt R A ev (zOf c)))) (mems R (nxt R A ev (zOf c))) = stD R (gop R A ev c) from (stD_zL W).symm] at st
      have st : F_stepped [eC R (A.map eA), stD R c, .int ev] = .ok (.sh (.tup [stD R (gop R A ev c), eT (dop R A ev c)])) := st
      have ni := nin_st W I.vc Vn
      obtain ⟨K, hK⟩ : ∃ K, K = asc R (zN (zOf c)) := ⟨_, rfl⟩
      obtain ⟨T, hT⟩ : ∃ K, K = tkz R A ev (zOf c) := ⟨_, rfl⟩
      rw [← hK] at t1 s0
      rw [← hT] at t1 c1
      have rl : (row.map eE).length < 100000 := by simp; simp at hr; omega
      have rl' : row.length < 100000 := by simp at hr; omega
      have zl : zs.length < 100000 := by have := I.le; omega
      have wl : ws.length < 100000 := by have := I.le; have := I.wl; omega
      by_cases hm : gop R A ev c ∈ zs
      · rw [if_pos hm]
        have ix := index_st W I.vc Vn hm
        have ih := fold_row W hA hl r zs ws (row ++ [(zs.idxOf (gop R A ev c), dop R A ev c)]) (.sh (.int ev)) (.sh .non) (.sh (.tup [stD R (gop R A ev c), eT (dop R A ev c)])) I hh (by simp at hr ⊢; omega) (j3 := j3) (here := here)
        have key : forL 6 L_folded_2 (D.int ev :: r.map .int) [.sh (eC R (A.map eA)), .ow (zs.map (stD R)), .ow (ws.map eT), j3, .sh (.int here), .ow (row.map eE), j6, j7, j8] =
            forL 6 L_folded_2 (r.map .int) [.sh (eC R (A.map eA)), .ow (zs.map (stD R)), .ow (ws.map eT), j3, .sh (.int here), .ow ((row ++ [(zs.idxOf (gop R A ev c), dop R A ev c)]).map eE), .sh (.int ev), .sh .non, .sh (.tup [stD R (gop R A ev c), eT (dop R A ev c)])] := by
          obtain ⟨ixn, hix⟩ : ∃ n, n = zs.idxOf (gop R A ev c) := ⟨_, rfl⟩
          rw [← hix] at ix ⊢
          rw [List.map_append]
          simp only [List.map_cons, List.map_nil, eE]
          obtain ⟨S, hS⟩ : ∃ S, S = stD R c := ⟨_, rfl⟩
          obtain ⟨S2, hS2⟩ : ∃ S, S = stD R (gop R A ev c) := ⟨_, rfl⟩
          obtain ⟨Dd, hDd⟩ : ∃ S, S = eT (dop R A ev c) := ⟨_, rfl⟩
          rw [← hS] at atz s0 st
          rw [← hS2] at st ni ix ⊢
          rw [← hDd] at st ⊢
          simp only [outP] at c1
          simp only [eC, eRs] at t1 c1 st ⊢
          simp only [forL, List.set_cons_succ, List.set_cons_zero]
          have q : L_folded_2 [.sh (.ins "Chart" [("rooms", .lst (R.map eR)), ("arrows", .lst (A.map eA))]), .ow (zs.map (stD R)), .ow (ws.map eT), j3, .sh (.int here), .ow (row.map eE), .sh (.int ev), j7, j8] =
              .ok .nx [.sh (.ins "Chart" [("rooms", .lst (R.map eR)), ("arrows", .lst (A.map eA))]), .ow (zs.map (stD R)), .ow (ws.map eT), j3, .sh (.int here), .ow (row.map eE ++ [.tup [.int ixn, Dd]]), .sh (.int ev), .sh .non, .sh (.tup [S2, Dd])] := by
            simp [L_folded_2, atz, s0, t1, c1, st, ni, hm, ix, rl']
          rw [q]
        rw [key]
        exact ih
      · rw [if_neg hm]
        by_cases h30 : zs.length = 30
        · rw [if_pos h30]
          obtain ⟨S, hS⟩ : ∃ S, S = stD R c := ⟨_, rfl⟩
          obtain ⟨S2, hS2⟩ : ∃ S, S = stD R (gop R A ev c) := ⟨_, rfl⟩
          obtain ⟨Dd, hDd⟩ : ∃ S, S = eT (dop R A ev c) := ⟨_, rfl⟩
          rw [← hS] at atz s0 st
          rw [← hS2] at st ni
          rw [← hDd] at st
          simp only [outP] at c1
          simp only [eC, eRs] at t1 c1 st ⊢
          simp only [forL, List.set_cons_succ, List.set_cons_zero]
          have q : ∃ e', L_folded_2 [.sh (.ins "Chart" [("rooms", .lst (R.map eR)), ("arrows", .lst (A.map eA))]), .ow (zs.map (stD R)), .ow (ws.map eT), j3, .sh (.int here), .ow (row.map eE), .sh (.int ev), j7, j8] = .ex "TooMany" none e' := by
            have : ((zs.length : Nat) : Int) = 30 := by omega
            refine exn_out ?_
            simp [L_folded_2, atz, s0, t1, c1, st, ni, hm, this]
          obtain ⟨e', q⟩ := q
          exact ⟨e', by rw [q]⟩
        · rw [if_neg h30]
          have I2 := I.add W hA hh (ev := ev) (by rw [← hc]; exact hp) (by rw [← hc]; exact hm) h30
          rw [← hc, ← hw] at I2
          have ix := index_st W I2.vc Vn (by simp)
          rw [idx_new hm] at ix
          have aw := add_way (w := w) (ev := ev) wlen
          have ih := fold_row W hA hl r (zs ++ [gop R A ev c]) (ws ++ [w ++ [ev]]) (row ++ [(zs.length, dop R A ev c)]) (.sh (.int ev)) (.sh .non) (.sh (.tup [stD R (gop R A ev c), eT (dop R A ev c)])) I2 (by simp; omega) (by simp at hr ⊢; omega) (j3 := j3) (here := here)
          have key : forL 6 L_folded_2 (D.int ev :: r.map .int) [.sh (eC R (A.map eA)), .ow (zs.map (stD R)), .ow (ws.map eT), j3, .sh (.int here), .ow (row.map eE), j6, j7, j8] =
              forL 6 L_folded_2 (r.map .int) [.sh (eC R (A.map eA)), .ow ((zs ++ [gop R A ev c]).map (stD R)), .ow ((ws ++ [w ++ [ev]]).map eT), j3, .sh (.int here), .ow ((row ++ [(zs.length, dop R A ev c)]).map eE), .sh (.int ev), .sh .non, .sh (.tup [stD R (gop R A ev c), eT (dop R A ev c)])] := by
            rw [List.map_append, List.map_append, List.map_append] at *
            simp only [List.map_cons, List.map_nil, eE] at *
            obtain ⟨S, hS⟩ : ∃ S, S = stD R c := ⟨_, rfl⟩
            obtain ⟨S2, hS2⟩ : ∃ S, S = stD R (gop R A ev c) := ⟨_, rfl⟩
            obtain ⟨Dd, hDd⟩ : ∃ S, S = eT (dop R A ev c) := ⟨_, rfl⟩
            obtain ⟨We, hWe⟩ : ∃ S, S = eT (w ++ [ev]) := ⟨_, rfl⟩
            obtain ⟨Wd, hWd⟩ : ∃ S, S = eT w := ⟨_, rfl⟩
            rw [← hS] at atz s0 st
            rw [← hS2] at st ni ix ⊢
            rw [← hDd] at st ⊢
            rw [← hWd] at atw aw
            rw [← hWe] at aw ⊢
            simp only [outP] at c1
            simp only [eC, eRs] at t1 c1 st ⊢
            simp only [forL, List.set_cons_succ, List.set_cons_zero]
            have n30 : ¬ ((zs.length : Nat) : Int) = 30 := by omega
            have q : L_folded_2 [.sh (.ins "Chart" [("rooms", .lst (R.map eR)), ("arrows", .lst (A.map eA))]), .ow (zs.map (stD R)), .ow (ws.map eT), j3, .sh (.int here), .ow (row.map eE), .sh (.int ev), j7, j8] =
                .ok .nx [.sh (.ins "Chart" [("rooms", .lst (R.map eR)), ("arrows", .lst (A.map eA))]), .ow (zs.map (stD R) ++ [S2]), .ow (ws.map eT ++ [We]), j3, .sh (.int here), .ow (row.map eE ++ [.tup [.int zs.length, Dd]]), .sh (.int ev), .sh .non, .sh (.tup [S2, Dd])] := by
              simp [L_folded_2, atz, s0, t1, c1, st, ni, hm, n30, atw, aw, ix, rl', zl, wl]
            rw [q]
          rw [key]
          exact ih
end
end My
set_option Elab.async false
set_option linter.all false
set_option maxRecDepth 100000
set_option maxHeartbeats 4000000
set_option autoImplicit false
noncomputable section
namespace My
open PySem PySem.Spec L2 DL
open PyProof.Rows hiding St
section
variable {R : List Rm} {A : List Ar}
theorem fev_inv (W : WF R) (hA : ∀ a ∈ A, GA R a) {here : Nat} : ∀ (evs : List Int) (zs ws : List (List Int)) (row : Rw) {zs' ws' : List (List Int)} {row' : Rw}, FI R zs ws → here < zs.length → fev R A here evs zs ws row = .ok zs' ws' row' →
    FI R zs' ws' ∧ (∃ t, zs' = zs ++ t) ∧ (∃ t, ws' = ws ++ t) ∧ row'.length = row.length + evs.length
  | [], zs, ws, row, zs', ws', row', I, hh, h => by
    unfold fev at h
    cases h
    exact ⟨I, ⟨[], by simp⟩, ⟨[], by simp⟩, by simp⟩
  | ev :: r, zs, ws, row, zs', ws', row', I, hh, h => by
    unfold fev at h
    cases hp : clp R A ev (zs.getD here []) with
    | some p => rw [hp] at h; cases h
    | none =>
      rw [hp] at h
      dsimp only at h
      by_cases hm : gop R A ev (zs.getD here []) ∈ zs
      · rw [if_pos hm] at h
        obtain ⟨h1, h2, h3, h4⟩ := fev_inv W hA r _ _ _ I hh h
        exact ⟨h1, h2, h3, by rw [h4]; simp; omega⟩
      · rw [if_neg hm] at h
        by_cases h30 : zs.length = 30
        · rw [if_pos h30] at h; cases h
        · rw [if_neg h30] at h
          obtain ⟨h1, ⟨t, h2⟩, ⟨u, h3⟩, h4⟩ := fev_inv W hA r _ _ _ (I.add W hA hh hp hm h30) (by simp; omega) h
          exact ⟨h1, ⟨_, by rw [h2, List.append_assoc]⟩, ⟨_, by rw [h3, List.append_assoc]⟩, by rw [h4]; simp; omega⟩
theorem rng4 : rngD 0 4 = ([0, 1, 2, 3] : List Int).map D.int := by simp [rngD, List.range_succ]
theorem fold_while (W : WF R) (hA : ∀ a ∈ A, GA R a) (hl : A.length < 1000) : ∀ (n fuel : Nat) (zs ws : List (List Int)) (rows : List Rw) (j4 j5 j6 j7 j8 : DL.Slot), FI R zs ws → n ≤ fuel →
    match fwh R A n zs ws rows with
    | .ok zs' ws' rows' => ∃ j4' j5' j6' j7' j8', whileN (asB (op2 ltD (callB lenD [(v 3)]) (callB lenD [(v 1)]))) L_folded_1 fuel [.sh (eC R (A.map eA)), .ow (zs.map (stD R)), .ow (ws.map eT), .ow (rows.map eRow), j4, j5, j6, j7, j8] =
        .ok .nx [.sh (eC R (A.map eA)), .ow (zs'.map (stD R)), .ow (ws'.map eT), .ow (rows'.map eRow), j4', j5', j6', j7', j8']
    | .cl w a b => ∃ e', whileN (asB (op2 ltD (callB lenD [(v 3)]) (callB lenD [(v 1)]))) L_folded_1 fuel [.sh (eC R (A.map eA)), .ow (zs.map (stD R)), .ow (ws.map eT), .ow (rows.map eRow), j4, j5, j6, j7, j8] =
        .ex "Clash" (some [("second", .int b), ("first", .int a), ("events", eT w)]) e'
    | .many => ∃ e', whileN (asB (op2 ltD (callB lenD [(v 3)]) (callB lenD [(v 1)]))) L_folded_1 fuel [.sh (eC R (A.map eA)), .ow (zs.map (stD R)), .ow (ws.map eT), .ow (rows.map eRow), j4, j5, j6, j7, j8] = .ex "TooMany" none e'
    | .st => True := by
  intro n
  induction n with
  | zero => intro fuel zs ws rows j4 j5 j6 j7 j8 I hf; trivial
  | succ n ih =>
    intro fuel zs ws rows j4 j5 j6 j7 j8 I hf
    obtain ⟨m, rfl⟩ : ∃ m, fuel = m + 1 := ⟨fuel - 1, by omega⟩
    have tst : asB (op2 ltD (callB lenD [(v 3)]) (callB lenD [(v 1)])) [.sh (eC R (A.map eA)), .ow (zs.map (stD R)), .ow (ws.map eT), .ow (rows.map eRow), j4, j5, j6, j7, j8] =
        .ok (decide (rows.length < zs.length)) [.sh (eC R (A.map eA)), .ow (zs.map (stD R)), .ow (ws.map eT), .ow (rows.map eRow), j4, j5, j6, j7, j8] := by
      simp
    simp only [whileN, e_bnd, tst]
    unfold fwh
    by_cases c : rows.length < zs.length
    · simp only [if_pos c, decide_eq_true c, if_true]
      have fr := fold_row W hA hl (here := rows.length) (j3 := .ow (rows.map eRow)) [0, 1, 2, 3] zs ws [] j6 j7 j8 I c (by simp)
      have zl : rows.length < 100000 := by have := I.le; omega
      cases hf2 : fev R A rows.length [0, 1, 2, 3] zs ws [] with
      | ok zs' ws' row =>
        rw [hf2] at fr
        obtain ⟨j6', j7', j8', q⟩ := fr
        obtain ⟨I2, _, _, _⟩ := fev_inv W hA _ _ _ _ I c hf2
        have ih2 := ih m zs' ws' (rows ++ [row]) (.sh (.int rows.length)) (.sh (eRow row)) j6' j7' j8' I2 (by omega)
        rw [← rng4] at q
        have key : L_folded_1 [.sh (eC R (A.map eA)), .ow (zs.map (stD R)), .ow (ws.map eT), .ow (rows.map eRow), j4, j5, j6, j7, j8] = .ok .nx [.sh (eC R (A.map eA)), .ow (zs'.map (stD R)), .ow (ws'.map eT), .ow ((rows ++ [row]).map eRow), .sh (.int rows.length), .sh (eRow row), j6', j7', j8'] := by
          have q : forL 6 L_folded_2 (rngD 0 4) [_, _, _, _, _, .ow [], _, _, _] = _ := q
          rw [List.map_append]
          have n4 : rng1 4 = fun e => Out.ok (rngD 0 4) e := by
            funext e
            exact rng1_eq near_4
          simp only [eC, eRs] at q ⊢
          simp [L_folded_1, q, zl, eRow, n4]
        rw [key]
        exact ih2
      | cl w a b =>
        rw [hf2] at fr
        obtain ⟨e', q⟩ := fr
        rw [← rng4] at q
        have q : forL 6 L_folded_2 (rngD 0 4) [_, _, _, _, _, .ow [], _, _, _] = _ := q
        have n4 : rng1 4 = fun e => Out.ok (rngD 0 4) e := by
          funext e
          exact rng1_eq near_4
        simp only [eC, eRs] at q ⊢
        exact ⟨e', by simp [L_folded_1, q, n4]⟩
      | many =>
        rw [hf2] at fr
        obtain ⟨e', q⟩ := fr
        rw [← rng4] at q
        have q : forL 6 L_folded_2 (rngD 0 4) [_, _, _, _, _, .ow [], _, _, _] = _ := q
        have n4 : rng1 4 = fun e => Out.ok (rngD 0 4) e := by
          funext e
          exact rng1_eq near_4
        simp only [eC, eRs] at q ⊢
        exact ⟨e', by simp [L_folded_1, q, n4]⟩
    · simp only [if_neg c, decide_eq_false c, Bool.false_eq_true, if_false]
      exact ⟨_, _, _, _, _, rfl⟩
def flD (R : List Rm) (zs ws : List (List Int)) (rows : List Rw) : D := .ins "Flat" [("states", .lst (zs.map (stD R))), ("rows", .lst (rows.map eRow)), ("ways", .lst (ws.map eT))]
theorem fi_start (W : WF R) : FI R [zL R (fz R)] [[]] := ⟨by simp, fun c hc => by
  simp at hc
  subst hc
  exact VC.mk' W (fz_cho W) fz_nrm, rfl, fun i w h => by
  cases i with
  | zero => simp at h; subst h; simp
  | succ i => simp at h, by simp⟩
theorem folded_eq (W : WF R) (hA : ∀ a ∈ A, GA R a) (hl : A.length < 1000) :
    match fold0 R A with
    | .ok zs ws rows => F_folded [eC R (A.map eA)] = .ok (.sh (flD R zs ws rows))
    | .cl w a b => F_folded [eC R (A.map eA)] = .ex "Clash" (some [("second", .int b), ("first", .int a), ("events", eT w)])
    | .many => F_folded [eC R (A.map eA)] = .ex "TooMany" none
    | .st => True := by
  have s1 := started_eq W (A := A.map eA)
  rw [← begin_eq W, ← stD_zL W] at s1
  have fw := fold_while W hA hl 31 1000000 [zL R (fz R)] [[]] [] .un .un .un .un .un (fi_start W) (by omega)
  unfold fold0
  obtain ⟨Z0, hZ0⟩ : ∃ Z, Z = zL R (fz R) := ⟨_, rfl⟩
  rw [← hZ0] at fw s1 ⊢
  have w0 : whileS (asB (op2 ltD (callB lenD [(v 3)]) (callB lenD [(v 1)]))) L_folded_1 = whileN (asB (op2 ltD (callB lenD [(v 3)]) (callB lenD [(v 1)]))) L_folded_1 1000000 := rfl
  cases hf : fwh R A 31 [Z0] [[]] [] with
  | ok zs ws rows =>
    rw [hf] at fw
    obtain ⟨j4, j5, j6, j7, j8, q⟩ := fw
    have q : whileN _ L_folded_1 1000000 [.sh (eC R (A.map eA)), .ow [stD R Z0], .ow [.tup []], .ow [], _, _, _, _, _] = _ := q
    obtain ⟨S, hS⟩ : ∃ S, S = stD R Z0 := ⟨_, rfl⟩
    rw [← hS] at q s1
    have l1 : ∀ a b c : D, putD "ways" c (putD "rows" b (putD "states" a [])) = [(("states" : Str), a), ("rows", b), ("ways", c)] := fun _ _ _ => rfl
    have l2 : ∀ a b : D, (putD "rows" b (putD "states" a [])).length < 90 := fun _ _ => (by decide : (2 : Nat) < 90)
    have l3 : ∀ a : D, (putD "states" a []).length < 90 := fun _ => (by decide : (1 : Nat) < 90)
    simp only [eC, eRs] at q s1 ⊢
    simp only [F_folded, B_folded, w0]
    simp [s1, q, F_Flat__init, B_Flat__init, l1, l2, l3, flD]
  | cl w a b =>
    rw [hf] at fw
    obtain ⟨e', q⟩ := fw
    have q : whileN _ L_folded_1 1000000 [.sh (eC R (A.map eA)), .ow [stD R Z0], .ow [.tup []], .ow [], _, _, _, _, _] = _ := q
    obtain ⟨S, hS⟩ : ∃ S, S = stD R Z0 := ⟨_, rfl⟩
    rw [← hS] at q s1
    simp only [eC, eRs] at q s1 ⊢
    simp only [F_folded, B_folded, w0]
    simp [s1, q]
  | many =>
    rw [hf] at fw
    obtain ⟨e', q⟩ := fw
    have q : whileN _ L_folded_1 1000000 [.sh (eC R (A.map eA)), .ow [stD R Z0], .ow [.tup []], .ow [], _, _, _, _, _] = _ := q
    obtain ⟨S, hS⟩ : ∃ S, S = stD R Z0 := ⟨_, rfl⟩
    rw [← hS] at q s1
    simp only [eC, eRs] at q s1 ⊢
    simp only [F_folded, B_folded, w0]
    simp [s1, q]
  | st => trivial
end
end My
set_option Elab.async false
set_option linter.all false
set_option maxRecDepth 100000
set_option maxHeartbeats 4000000
set_option autoImplicit false
noncomputable section
namespace My
open PySem PySem.Spec L2 DL
open PyProof.Rows hiding St
/-! ### states alike (plain) -/
abbrev Rows := List Rw
def nx (rs : Rows) (a e : Nat) : Nat := ((rs.getD a []).getD e (0, [])).1
def dd (rs : Rows) (a e : Nat) : List Int := ((rs.getD a []).getD e (0, [])).2
structure RowsOk (rs : Rows) : Prop where
  n1 : 1 ≤ rs.length
  four : ∀ r ∈ rs, r.length = 4
  lt : ∀ r ∈ rs, ∀ p ∈ r, p.1 < rs.length
section
variable {rs : Rows}
theorem row_at (O : RowsOk rs) {a e : Nat} (ha : a < rs.length) (he : e < 4) : ∃ r p, rs[a]? = some r ∧ r ∈ rs ∧ r.length = 4 ∧ r[e]? = some p ∧ p.1 < rs.length ∧ p = (nx rs a e, dd rs a e) := by
  have h1 : rs[a]? = some rs[a] := List.getElem?_eq_getElem ha
  have hm : rs[a] ∈ rs := List.getElem_mem ha
  have h4 := O.four _ hm
  have he' : e < rs[a].length := by omega
  have h2 : rs[a][e]? = some rs[a][e] := List.getElem?_eq_getElem he'
  refine ⟨_, _, h1, hm, h4, h2, O.lt _ hm _ (List.getElem_mem he'), ?_⟩
  simp [nx, dd, ha, he']
theorem nx_lt (O : RowsOk rs) {a e : Nat} (ha : a < rs.length) (he : e < 4) : nx rs a e < rs.length := by
  obtain ⟨r, p, _, _, _, _, h, rfl⟩ := row_at O ha he
  exact h
/-- not parted by a word of at most t events -/
def eqv (rs : Rows) : Nat → Nat → Nat → Bool
  | 0, _, _ => true
  | t + 1, a, b => (List.range 4).all fun e => decide (dd rs a e = dd rs b e) && eqv rs t (nx rs a e) (nx rs b e)
theorem eqv_s {t a b : Nat} : eqv rs (t + 1) a b = true ↔ ∀ e, e < 4 → dd rs a e = dd rs b e ∧ eqv rs t (nx rs a e) (nx rs b e) = true := by
  simp only [eqv, List.all_eq_true, List.mem_range, Bool.and_eq_true, decide_eq_true_eq]
theorem eqv_refl : ∀ (t a : Nat), eqv rs t a a = true
  | 0, _ => rfl
  | t + 1, a => eqv_s.mpr fun e _ => ⟨rfl, eqv_refl t _⟩
theorem eqv_symm : ∀ {t a b : Nat}, eqv rs t a b = true → eqv rs t b a = true
  | 0, _, _, _ => rfl
  | t + 1, a, b, h => eqv_s.mpr fun e he => ⟨((eqv_s.mp h) e he).1.symm, eqv_symm ((eqv_s.mp h) e he).2⟩
theorem eqv_trans : ∀ {t a b c : Nat}, eqv rs t a b = true → eqv rs t b c = true → eqv rs t a c = true
  | 0, _, _, _, _, _ => rfl
  | t + 1, a, b, c, h, k => eqv_s.mpr fun e he => ⟨((eqv_s.mp h) e he).1.trans ((eqv_s.mp k) e he).1, eqv_trans ((eqv_s.mp h) e he).2 ((eqv_s.mp k) e he).2⟩
theorem eqv_down : ∀ {t a b : Nat}, eqv rs (t + 1) a b = true → eqv rs t a b = true
  | 0, _, _, _ => rfl
  | t + 1, a, b, h => eqv_s.mpr fun e he => ⟨((eqv_s.mp h) e he).1, eqv_down ((eqv_s.mp h) e he).2⟩
theorem eqv_le {t s a b : Nat} (h : s ≤ t) (k : eqv rs t a b = true) : eqv rs s a b = true := by
  induction t with
  | zero => have : s = 0 := by omega
            subst this; exact k
  | succ t ih =>
    by_cases e : s = t + 1
    · subst e; exact k
    · exact ih (by omega) (eqv_down k)
/-- from t on nothing more is parted -/
def Stab (rs : Rows) (t : Nat) : Prop := ∀ a b, a < rs.length → b < rs.length → eqv rs t a b = true → eqv rs (t + 1) a b = true
theorem Stab.next (O : RowsOk rs) {t : Nat} (S : Stab rs t) : Stab rs (t + 1) := fun a b ha hb h =>
  eqv_s.mpr fun e he => ⟨((eqv_s.mp h) e he).1, S _ _ (nx_lt O ha he) (nx_lt O hb he) ((eqv_s.mp h) e he).2⟩
theorem Stab.from (O : RowsOk rs) {t : Nat} (S : Stab rs t) : ∀ k, Stab rs (t + k)
  | 0 => S
  | k + 1 => (Stab.from O S k).next O
theorem Stab.all (O : RowsOk rs) {t : Nat} (S : Stab rs t) {a b : Nat} (ha : a < rs.length) (hb : b < rs.length) (h : eqv rs t a b = true) : ∀ k, eqv rs (t + k) a b = true
  | 0 => h
  | k + 1 => (Stab.from O S k) a b ha hb (Stab.all O S ha hb h k)
/-- the least of its kind -/
def isRep (rs : Rows) (t a : Nat) : Bool := (List.range a).all fun b => !eqv rs t b a
def reps (rs : Rows) (t : Nat) : List Nat := (List.range rs.length).filter (isRep rs t)
theorem isRep_iff {t a : Nat} : isRep rs t a = true ↔ ∀ b, b < a → eqv rs t b a = false := by
  simp only [isRep, List.all_eq_true, List.mem_range, Bool.not_eq_true']
/-- the least one that is alike -/
def rep (rs : Rows) (t a : Nat) : Nat := ((List.range (a + 1)).find? fun b => eqv rs t b a).getD a
theorem rep_spec {t a : Nat} : rep rs t a ≤ a ∧ eqv rs t (rep rs t a) a = true ∧ ∀ b, b < rep rs t a → eqv rs t b a = false := by
  unfold rep
  cases h : (List.range (a + 1)).find? fun b => eqv rs t b a with
  | none =>
    have := List.find?_eq_none.mp h a (by simp)
    rw [eqv_refl] at this
    exact absurd rfl this
  | some x =>
    obtain ⟨h1, h2, h3⟩ := List.find?_range_eq_some.mp h
    simp only [Option.getD_some]
    refine ⟨by have := List.mem_range.mp h2; omega, h1, fun b hb => by simpa using h3 b hb⟩
theorem rep_isRep {t a : Nat} : isRep rs t (rep rs t a) = true := by
  obtain ⟨h1, h2, h3⟩ := rep_spec (rs := rs) (t := t) (a := a)
  refine isRep_iff.mpr fun b hb => ?_
  cases q : eqv rs t b (rep rs t a) with
  | false => rfl
  | true =>
    have := h3 b hb
    rw [eqv_trans q h2] at this
    cases this
theorem rep_eq {t a b : Nat} : rep rs t a = rep rs t b ↔ eqv rs t a b = true := by
  obtain ⟨a1, a2, a3⟩ := rep_spec (rs := rs) (t := t) (a := a)
  obtain ⟨b1, b2, b3⟩ := rep_spec (rs := rs) (t := t) (a := b)
  constructor
  · intro h
    rw [h] at a2
    exact eqv_trans (eqv_symm a2) b2
  · intro h
    rcases Nat.lt_trichotomy (rep rs t a) (rep rs t b) with lt | e | lt
    · have := b3 _ lt
      rw [eqv_trans a2 h] at this
      cases this
    · exact e
    · have := a3 _ lt
      rw [eqv_trans b2 (eqv_symm h)] at this
      cases this
theorem reps_grow {t : Nat} {a b : Nat} (ha : a < rs.length) (hb : b < rs.length) (h : eqv rs t a b = true) (k : eqv rs (t + 1) a b = false) : (reps rs t).length < (reps rs (t + 1)).length := by
  -- one that is new
  have new : ∃ y, y < rs.length ∧ isRep rs (t + 1) y = true ∧ isRep rs t y = false := by
    obtain ⟨m1, m2, m3⟩ := rep_spec (rs := rs) (t := t) (a := a)
    have hx : ∃ x, x < rs.length ∧ eqv rs t (rep rs t a) x = true ∧ eqv rs (t + 1) (rep rs t a) x = false := by
      cases q : eqv rs (t + 1) (rep rs t a) a with
      | false => exact ⟨a, ha, m2, q⟩
      | true =>
        refine ⟨b, hb, eqv_trans m2 h, ?_⟩
        cases q2 : eqv rs (t + 1) (rep rs t a) b with
        | false => rfl
        | true =>
          rw [eqv_trans (eqv_symm q) q2] at k
          cases k
    obtain ⟨x, x1, x2, x3⟩ := hx
    obtain ⟨y1, y2, y3⟩ := rep_spec (rs := rs) (t := t + 1) (a := x)
    refine ⟨rep rs (t + 1) x, by omega, rep_isRep, ?_⟩
    have hy : eqv rs t (rep rs t a) (rep rs (t + 1) x) = true := eqv_trans x2 (eqv_symm (eqv_down y2))
    have ne : rep rs t a ≠ rep rs (t + 1) x := fun e => by
      rw [← e] at y2
      rw [y2] at x3
      cases x3
    cases q : isRep rs t (rep rs (t + 1) x) with
    | false => rfl
    | true =>
      rcases Nat.lt_trichotomy (rep rs t a) (rep rs (t + 1) x) with lt | e | lt
      · have := isRep_iff.mp q _ lt
        rw [hy] at this
        cases this
      · exact absurd e ne
      · have := isRep_iff.mp (rep_isRep (rs := rs) (t := t) (a := a)) _ lt
        rw [eqv_symm hy] at this
        cases this
  obtain ⟨y, y1, y2, y3⟩ := new
  have sub : ∀ z ∈ y :: reps rs t, z ∈ reps rs (t + 1) := by
    intro z hz
    rcases List.mem_cons.mp hz with rfl | hz
    · exact List.mem_filter.mpr ⟨List.mem_range.mpr y1, y2⟩
    · obtain ⟨z1, z2⟩ := List.mem_filter.mp hz
      refine List.mem_filter.mpr ⟨z1, isRep_iff.mpr fun c hc => ?_⟩
      have := isRep_iff.mp z2 c hc
      cases q : eqv rs (t + 1) c z with
      | false => rfl
      | true => rw [eqv_down q] at this; cases this
  have nd : (y :: reps rs t).Nodup := by
    refine List.nodup_cons.mpr ⟨fun h => ?_, List.Pairwise.filter _ List.nodup_range⟩
    have := (List.mem_filter.mp h).2
    rw [y3] at this
    cases this
  have := List.Nodup.length_le_of_subset nd fun z hz => sub z hz
  rw [List.length_cons] at this
  omega
theorem not_stab {t : Nat} (h : ¬ Stab rs t) : ∃ a b, a < rs.length ∧ b < rs.length ∧ eqv rs t a b = true ∧ eqv rs (t + 1) a b = false := by
  refine Classical.byContradiction fun no => h fun a b ha hb k => ?_
  cases q : eqv rs (t + 1) a b with
  | true => rfl
  | false => exact absurd ⟨a, b, ha, hb, k, q⟩ no
theorem stab_ex (O : RowsOk rs) : ∃ t, t < rs.length ∧ Stab rs t := by
  refine Classical.byContradiction fun no => ?_
  have key : ∀ t, t ≤ rs.length → t + 1 ≤ (reps rs t).length := by
    intro t
    induction t with
    | zero =>
      intro _
      have : 0 ∈ reps rs 0 := List.mem_filter.mpr ⟨List.mem_range.mpr O.n1, isRep_iff.mpr fun b hb => by omega⟩
      exact List.length_pos_of_mem this
    | succ t ih =>
      intro ht
      have ns : ¬ Stab rs t := fun S => no ⟨t, by omega, S⟩
      obtain ⟨a, b, ha, hb, h, k⟩ := not_stab ns
      have := reps_grow ha hb h k
      have := ih (by omega)
      omega
  have h1 := key rs.length (Nat.le_refl _)
  have h2 : (reps rs rs.length).length ≤ rs.length := by
    unfold reps
    exact Nat.le_trans (List.length_filter_le ..) (by simp)
  omega
/-- .. in as many turns as there are states -/
theorem eqv_all (O : RowsOk rs) {a b : Nat} (ha : a < rs.length) (hb : b < rs.length) {t : Nat} (ht : rs.length ≤ t) : eqv rs t a b = eqv rs rs.length a b := by
  obtain ⟨s, hs, S⟩ := stab_ex O
  have key : ∀ t, s ≤ t → eqv rs t a b = eqv rs s a b := by
    intro t ht
    cases q : eqv rs s a b with
    | true =>
      have := S.all O ha hb q (t - s)
      rwa [show s + (t - s) = t by omega] at this
    | false =>
      cases q2 : eqv rs t a b with
      | false => rfl
      | true => rw [eqv_le ht q2] at q; cases q
  rw [key t (by omega), key rs.length (by omega)]
/-! ### the table of distances -/
def fr (rs : Rows) : Nat → Nat → Nat → Nat
  | 0, _, _ => 0
  | t + 1, a, b => if fr rs t a b ≠ 0 then fr rs t a b else
    if t = 0 then (if (List.range 4).any (fun e => !decide (dd rs a e = dd rs b e)) = true then 1 else 0) else
    (if (List.range 4).any (fun e => decide (fr rs t (nx rs a e) (nx rs b e) = t)) = true then t + 1 else 0)
theorem fr_spec (O : RowsOk rs) : ∀ (t : Nat) {a b : Nat}, a < rs.length → b < rs.length → (fr rs t a b = 0 ↔ eqv rs t a b = true) ∧ ∀ s, (fr rs t a b = s + 1 ↔ (eqv rs s a b = true ∧ eqv rs (s + 1) a b = false ∧ s + 1 ≤ t))
  | 0, a, b, ha, hb => ⟨by simp [fr, eqv], fun s => by simp [fr]⟩
  | t + 1, a, b, ha, hb => by
    obtain ⟨i1, i2⟩ := fr_spec O t ha hb
    by_cases h0 : fr rs t a b = 0
    · have e0 := i1.mp h0
      have hv : fr rs (t + 1) a b = if eqv rs (t + 1) a b = true then 0 else t + 1 := by
        unfold fr
        rw [if_neg (by simp [h0])]
        by_cases ht : t = 0
        · subst ht
          simp only [if_true]
          cases q : eqv rs 1 a b with
          | true =>
            rw [if_neg, if_pos rfl]
            simp only [List.any_eq_true, List.mem_range, Bool.not_eq_true', decide_eq_false_iff_not]
            rintro ⟨e, he, ne⟩
            exact ne ((eqv_s.mp q) e he).1
          | false =>
            rw [if_pos, if_neg (by simp)]
            simp only [List.any_eq_true, List.mem_range, Bool.not_eq_true', decide_eq_false_iff_not]
            refine Classical.byContradiction fun no => ?_
            have : eqv rs 1 a b = true := eqv_s.mpr fun e he => ⟨Classical.byContradiction fun ne => no ⟨e, he, ne⟩, rfl⟩
            rw [this] at q
            cases q
        · rw [if_neg ht]
          obtain ⟨u, rfl⟩ : ∃ u, t = u + 1 := ⟨t - 1, by omega⟩
          cases q : eqv rs (u + 1 + 1) a b with
          | true =>
            rw [if_neg, if_pos rfl]
            simp only [List.any_eq_true, List.mem_range, decide_eq_true_eq]
            rintro ⟨e, he, ne⟩
            have := ((fr_spec O (u + 1) (nx_lt O ha he) (nx_lt O hb he)).2 u).mp ne
            rw [((eqv_s.mp q) e he).2] at this
            exact absurd this.2.1 (by simp)
          | false =>
            rw [if_pos, if_neg (by simp)]
            simp only [List.any_eq_true, List.mem_range, decide_eq_true_eq]
            refine Classical.byContradiction fun no => ?_
            have : eqv rs (u + 1 + 1) a b = true := eqv_s.mpr fun e he => by
              obtain ⟨e1, e2⟩ := (eqv_s.mp e0) e he
              refine ⟨e1, ?_⟩
              cases q2 : eqv rs (u + 1) (nx rs a e) (nx rs b e) with
              | true => rfl
              | false => exact absurd ⟨e, he, ((fr_spec O (u + 1) (nx_lt O ha he) (nx_lt O hb he)).2 u).mpr ⟨e2, q2, Nat.le_refl _⟩⟩ no
            rw [this] at q
            cases q
      rw [hv]
      refine ⟨?_, fun s => ?_⟩
      · cases q : eqv rs (t + 1) a b <;> simp
      · cases q : eqv rs (t + 1) a b with
        | true =>
          rw [if_pos rfl]
          constructor
          · intro h; omega
          · rintro ⟨_, h2, h3⟩
            rw [eqv_le (by omega) q] at h2
            cases h2
        | false =>
          rw [if_neg (by simp)]
          constructor
          · intro h
            have : s = t := by omega
            subst this
            exact ⟨e0, q, Nat.le_refl _⟩
          · rintro ⟨h1, h2, h3⟩
            by_cases hs : s = t
            · rw [hs]
            · have : eqv rs (s + 1) a b = true := eqv_le (by omega) e0
              rw [this] at h2
              cases h2
    · have hv : fr rs (t + 1) a b = fr rs t a b := by
        conv => lhs; unfold fr
        rw [if_pos h0]
      rw [hv]
      obtain ⟨s, hs⟩ : ∃ s, fr rs t a b = s + 1 := ⟨fr rs t a b - 1, by omega⟩
      obtain ⟨q1, q2, q3⟩ := (i2 s).mp hs
      refine ⟨?_, fun s' => ?_⟩
      · constructor
        · intro h; exact absurd h h0
        · intro h
          rw [eqv_le (show s + 1 ≤ t + 1 by omega) h] at q2
          cases q2
      · rw [i2 s']
        constructor
        · rintro ⟨h1, h2, h3⟩; exact ⟨h1, h2, by omega⟩
        · rintro ⟨h1, h2, h3⟩
          refine ⟨h1, h2, ?_⟩
          -- both are the first turn at which they are parted
          rcases Nat.lt_trichotomy s s' with lt | e | lt
          · rw [eqv_le (show s + 1 ≤ s' by omega) h1] at q2
            cases q2
          · omega
          · rw [eqv_le (show s' + 1 ≤ s by omega) q1] at h2
            cases h2
theorem fr_all (O : RowsOk rs) {a b : Nat} (ha : a < rs.length) (hb : b < rs.length) {t : Nat} (ht : rs.length ≤ t) : fr rs t a b = fr rs rs.length a b := by
  obtain ⟨h1, h2⟩ := fr_spec O t ha hb
  obtain ⟨k1, k2⟩ := fr_spec O rs.length ha hb
  obtain ⟨s, hs, S⟩ := stab_ex O
  cases q : fr rs rs.length a b with
  | zero =>
    rw [h1, eqv_all O ha hb ht]
    exact k1.mp q
  | succ u =>
    obtain ⟨x, y, w⟩ := (k2 u).mp q
    exact (h2 u).mpr ⟨x, y, by omega⟩
/-- a table that a turn does not change is the last -/
theorem fr_stop (O : RowsOk rs) {t : Nat} (ht : 0 < t) (h : ∀ a b, a < rs.length → b < rs.length → fr rs (t + 1) a b = fr rs t a b) : ∀ {a b : Nat}, a < rs.length → b < rs.length → fr rs t a b = fr rs rs.length a b := by
  have S : Stab rs t := fun a b ha hb e => by
    have := h a b ha hb
    rw [((fr_spec O t ha hb).1).mpr e] at this
    exact ((fr_spec O (t + 1) ha hb).1).mp this
  intro a b ha hb
  obtain ⟨h1, h2⟩ := fr_spec O t ha hb
  obtain ⟨k1, k2⟩ := fr_spec O rs.length ha hb
  cases q : fr rs t a b with
  | zero =>
    symm
    rw [k1]
    have := h1.mp q
    by_cases hle : t ≤ rs.length
    · have := S.all O ha hb this (rs.length - t)
      rwa [show t + (rs.length - t) = rs.length by omega] at this
    · exact eqv_le (by omega) this
  | succ u =>
    obtain ⟨x, y, w⟩ := (h2 u).mp q
    symm
    rw [k2]
    refine ⟨x, y, ?_⟩
    by_cases hle : u + 1 ≤ rs.length
    · exact hle
    · -- then it would have been stable before
      rw [← eqv_all O ha hb (show rs.length ≤ u + 1 by omega)] at *
      have e1 := eqv_all O ha hb (t := u) (by omega)
      have e2 := eqv_all O ha hb (t := u + 1) (by omega)
      rw [e1] at x
      rw [e2, x] at y
      cases y
theorem fr_stop0 (O : RowsOk rs) (h : ∀ a b, a < rs.length → b < rs.length → fr rs 1 a b = 0) {a b : Nat} (ha : a < rs.length) (hb : b < rs.length) : fr rs rs.length a b = 0 := by
  have S : Stab rs 0 := fun a b ha hb _ => ((fr_spec O 1 ha hb).1).mp (h a b ha hb)
  have := S.all O ha hb rfl rs.length
  rw [Nat.zero_add] at this
  exact ((fr_spec O rs.length ha hb).1).mpr this
end
end My
set_option Elab.async false
set_option linter.all false
set_option maxRecDepth 100000
set_option maxHeartbeats 4000000
set_option autoImplicit false
noncomputable section
namespace My
open PySem PySem.Spec L2 DL
open PyProof.Rows hiding St
/-! ### loops that go on or return -/
structure NxR (o : Out Fl) (Q : List DL.Slot → Prop) (R : RV → Prop) : Prop where
  h : match o with
  | .ok .nx e => Q e
  | .ok (.rt r) _ => R r
  | _ => False
@[simp] theorem nxr_nx {e : List DL.Slot} {Q : List DL.Slot → Prop} {R : RV → Prop} : NxR (.ok .nx e) Q R ↔ Q e := ⟨fun z => z.1, fun z => ⟨z⟩⟩
@[simp] theorem nxr_rt {r : RV} {e : List DL.Slot} {Q : List DL.Slot → Prop} {R : RV → Prop} : NxR (.ok (.rt r) e) Q R ↔ R r := ⟨fun z => z.1, fun z => ⟨z⟩⟩
theorem nxr_out {o : Out Fl} {Q : List DL.Slot → Prop} {R : RV → Prop} (h : NxR o Q R) : (∃ e', o = .ok .nx e' ∧ Q e') ∨ (∃ r e', o = .ok (.rt r) e' ∧ R r) := by
  have h := h.h
  split at h
  · exact .inl ⟨_, rfl, h⟩
  · exact .inr ⟨_, _, rfl, h⟩
  · exact h.elim
theorem for_invR {ix : Nat} {body : M Fl} {ds : List D} {e : List DL.Slot} (R : RV → Prop) (I : Nat → List DL.Slot → Prop) (h : ∀ i d e, ds[i]? = some d → I i e → ∀ Q : List DL.Slot → Prop, (∀ e', I (i + 1) e' → Q e') → NxR (body (e.set ix (.sh d))) Q R) (h0 : I 0 e) :
    (∃ e', forL ix body ds e = .ok .nx e' ∧ I ds.length e') ∨ (∃ r e', forL ix body ds e = .ok (.rt r) e' ∧ R r) := by
  induction ds generalizing e I with
  | nil => exact .inl ⟨e, rfl, h0⟩
  | cons d ds ih =>
    rcases nxr_out (h 0 d e rfl h0 _ fun _ z => z) with ⟨e1, q, h1⟩ | ⟨r, e1, q, h1⟩
    · rcases ih (fun i e => I (i + 1) e) (fun i d' e' hd hI => h (i + 1) d' e' hd hI) h1 with ⟨e2, q2, h2⟩ | ⟨r, e2, q2, h2⟩
      · refine .inl ⟨e2, ?_, h2⟩
        rw [← q2]
        simp only [forL, q]
      · refine .inr ⟨r, e2, ?_, h2⟩
        rw [← q2]
        simp only [forL, q]
    · refine .inr ⟨r, e1, ?_, h1⟩
      simp only [forL, q]
theorem for_rngR {ix : Nat} {body : M Fl} {lo : Int} {n : Nat} {e : List DL.Slot} (R : RV → Prop) (I : Nat → List DL.Slot → Prop) (h : ∀ (k : Nat) e, k < n → I k e → ∀ Q : List DL.Slot → Prop, (∀ e', I (k + 1) e' → Q e') → NxR (body (e.set ix (.sh (.int (lo + k))))) Q R) (h0 : I 0 e) :
    (∃ e', forL ix body (rngD lo n) e = .ok .nx e' ∧ I n e') ∨ (∃ r e', forL ix body (rngD lo n) e = .ok (.rt r) e' ∧ R r) := by
  have := for_invR (ix := ix) (body := body) (ds := rngD lo n) (e := e) R I (fun i d e hd hI => by
    rw [rng_map, List.getElem?_map] at hd
    by_cases hi : i < n
    · rw [List.getElem?_range hi] at hd
      cases hd
      exact h i e hi hI
    · rw [List.getElem?_eq_none (by simpa using hi)] at hd
      cases hd) h0
  simpa [rng_map] using this
/-! ### the law's table of distances -/
section
variable {rs : Rows}
def eL (n : Nat) (g : Nat → Nat) : List D := (List.range n).map fun b => .int (g b)
theorem eL_len {n : Nat} {g : Nat → Nat} : (eL n g).length = n := by simp [eL]
theorem eL_at {n b : Nat} {g : Nat → Nat} (h : b < n) : atI (eL n g) (b : Int) = some (.int (g b)) := by
  unfold eL
  rw [atI_map, DL.atI_nat, List.getElem?_range h]; rfl
theorem eL_congr {n : Nat} {g g' : Nat → Nat} (h : ∀ b, b < n → g b = g' b) : eL n g = eL n g' := by
  unfold eL
  exact List.map_congr_left fun b hb => by rw [h b (List.mem_range.mp hb)]
def upd (g : Nat → Nat) (b x : Nat) : Nat → Nat := fun c => if c = b then x else g c
theorem eL_set {n b x : Nat} {g : Nat → Nat} : (eL n g).set b (.int x) = eL n (upd g b x) := by
  apply List.ext_getElem?
  intro i
  rw [List.getElem?_set]
  unfold eL upd
  by_cases hi : i < n
  · by_cases e : b = i
    · subst e; simp [hi]
    · simp [hi, e, Ne.symm e]
  · by_cases e : b = i
    · subst e; simp [hi]
    · simp [hi, e]
theorem eL_inj {n : Nat} {g g' : Nat → Nat} (h : eL n g = eL n g') : ∀ b, b < n → g b = g' b := by
  intro b hb
  have := eL_at (g := g) hb
  rw [h, eL_at hb] at this
  have h1 := Option.some.inj this
  injection h1 with h1
  omega
def eTab (rs : Rows) (t : Nat) : D := .lst ((List.range rs.length).map fun a => .lst (eL rs.length (fr rs t a)))
theorem eTab_at {t a : Nat} (ha : a < rs.length) : atI ((List.range rs.length).map fun a => D.lst (eL rs.length (fr rs t a))) (a : Int) = some (.lst (eL rs.length (fr rs t a))) := by
  rw [atI_map, DL.atI_nat, List.getElem?_range ha]; rfl
theorem rows_at (O : RowsOk rs) {a : Nat} (ha : a < rs.length) : ∃ re : List D, atI (rs.map eRow) (a : Int) = some (.lst re) ∧ re.length = 4 ∧ ∀ m : Nat, m < 4 → atI re (m : Int) = some (.tup [.int (nx rs a m), eT (dd rs a m)]) := by
  obtain ⟨r, p, h1, h2, h3, _⟩ := row_at O ha (show 0 < 4 by omega)
  refine ⟨r.map eE, ?_, by simp [h3], fun m hm => ?_⟩
  · rw [atI_map, DL.atI_nat, h1]; rfl
  · obtain ⟨r', p', k1, k2, k3, k4, k5, k6⟩ := row_at O ha hm
    rw [h1] at k1
    cases k1
    rw [atI_map, DL.atI_nat, k4, k6]; rfl
def fm (rs : Rows) (t m a b : Nat) : Nat := if fr rs t a b ≠ 0 then fr rs t a b else
    if t = 0 then (if (List.range m).any (fun e => !decide (dd rs a e = dd rs b e)) = true then 1 else 0) else
    (if (List.range m).any (fun e => decide (fr rs t (nx rs a e) (nx rs b e) = t)) = true then t + 1 else 0)
theorem fm_0 {t a b : Nat} : fm rs t 0 a b = fr rs t a b := by
  unfold fm
  by_cases h : fr rs t a b = 0 <;> simp [h]
theorem fm_4 {t a b : Nat} : fm rs t 4 a b = fr rs (t + 1) a b := rfl
theorem fm_s {t m a b : Nat} : fm rs t (m + 1) a b = if fm rs t m a b ≠ 0 then fm rs t m a b else
    if t = 0 then (if dd rs a m = dd rs b m then 0 else 1) else (if fr rs t (nx rs a m) (nx rs b m) = t then t + 1 else 0) := by
  unfold fm
  by_cases h : fr rs t a b = 0
  · by_cases ht : t = 0
    · simp only [h, ht, List.range_succ, List.any_append, List.any_cons, List.any_nil, Bool.or_false, ne_eq, not_true_eq_false, if_false, if_true, Bool.or_eq_true]
      have h0 : fr rs 0 a b = 0 := rfl
      cases q : (List.range m).any fun e => !decide (dd rs a e = dd rs b e) <;> by_cases k : dd rs a m = dd rs b m <;> simp [k, h0]
    · simp only [h, ht, List.range_succ, List.any_append, List.any_cons, List.any_nil, Bool.or_false, ne_eq, not_true_eq_false, if_false, if_true, Bool.or_eq_true]
      cases q : (List.range m).any fun e => decide (fr rs t (nx rs a e) (nx rs b e) = t) <;> by_cases k : fr rs t (nx rs a m) (nx rs b m) = t <;> simp [k]
  · simp [h]
theorem upd_same {n b x y : Nat} {g : Nat → Nat} : eL n (upd (upd g b x) b y) = eL n (upd g b y) := eL_congr fun c _ => by
  unfold upd
  split <;> rfl
theorem upd_at {b x : Nat} {g : Nat → Nat} : upd g b x b = x := by simp [upd]
theorem ev_loop (O : RowsOk rs) {t a b : Nat} (ha : a < rs.length) (hb : b < rs.length) {g : Nat → Nat} (hg : g b = fr rs t a b) {found : List D} {j7 j8 j9 : DL.Slot} :
    ∃ j7' j8' j9', forL 7 L__law_far_round_3 (rngD 0 4) [.sh (.lst (rs.map eRow)), .sh (eTab rs t), .sh (.int ((t : Int) + 1)), .ow found, .sh (.int a), .ow (eL rs.length g), .sh (.int b), j7, j8, j9] =
      .ok .nx [.sh (.lst (rs.map eRow)), .sh (eTab rs t), .sh (.int ((t : Int) + 1)), .ow found, .sh (.int a), .ow (eL rs.length (upd g b (fr rs (t + 1) a b))), .sh (.int b), j7', j8', j9'] := by
  obtain ⟨e', q, ⟨j7', j8', j9', rfl⟩⟩ := for_rngQ (ix := 7) (body := L__law_far_round_3) (lo := 0) (n := 4) (e := [.sh (.lst (rs.map eRow)), .sh (eTab rs t), .sh (.int ((t : Int) + 1)), .ow found, .sh (.int a), .ow (eL rs.length g), .sh (.int b), j7, j8, j9])
    (fun m e => ∃ j7' j8' j9', e = [.sh (.lst (rs.map eRow)), .sh (eTab rs t), .sh (.int ((t : Int) + 1)), .ow found, .sh (.int a), .ow (eL rs.length (upd g b (fm rs t m a b))), .sh (.int b), j7', j8', j9'])
    (by
      rintro m e hm ⟨j7', j8', j9', rfl⟩ Q hQ
      obtain ⟨r1, a1, _, a2⟩ := rows_at O ha
      obtain ⟨r2, b1, _, b2⟩ := rows_at O hb
      have a2 := a2 m hm
      have b2 := b2 m hm
      have nd : neD (eT (dd rs a m)) (eT (dd rs b m)) = some (.sh (.bl (!decide (dd rs a m = dd rs b m)))) := by
        rw [o_neD ok_eT ok_eT]; simp only [eT_inj]
      have l1 := eL_at (g := upd g b (fm rs t m a b)) hb
      rw [upd_at] at l1
      have t1 := eTab_at (t := t) (nx_lt O ha hm)
      have t2 := eL_at (g := fr rs t (nx rs a m)) (nx_lt O hb hm)
      have ix := ixN_nat hb
      have st1 : (eL rs.length (upd g b (fm rs t m a b))).set b (.int 1) = eL rs.length (upd g b 1) := by
        have := eL_set (n := rs.length) (b := b) (x := 1) (g := upd g b (fm rs t m a b))
        rw [upd_same] at this
        exact this
      have st2 : (eL rs.length (upd g b (fm rs t m a b))).set b (.int ((t : Int) + 1)) = eL rs.length (upd g b (t + 1)) := by
        have := eL_set (n := rs.length) (b := b) (x := t + 1) (g := upd g b (fm rs t m a b))
        rw [upd_same] at this
        exact this
      have l2 := eL_at (g := upd g b 1) hb
      rw [upd_at] at l2
      have fin := fm_s (rs := rs) (t := t) (m := m) (a := a) (b := b)
      generalize fm rs t (m + 1) a b = c' at fin hQ
      generalize fm rs t m a b = c at *
      by_cases h : c = 0
      · subst h
        rw [if_neg (by simp)] at fin
        by_cases ht : t = 0
        · subst ht
          rw [if_pos rfl] at fin
          by_cases hd : dd rs a m = dd rs b m
          · rw [if_pos hd] at fin
            rw [hd] at nd
            simp [L__law_far_round_3, a1, a2, b1, b2, nd, l1, hd]
            exact hQ _ ⟨_, _, _, by rw [fin]; rfl⟩
          · rw [if_neg hd] at fin
            simp [L__law_far_round_3, a1, a2, b1, b2, nd, l1, hd, ix, eL_len, st1, l2]
            exact hQ _ ⟨_, _, _, by rw [fin]; rfl⟩
        · rw [if_neg ht] at fin
          have ht' : 0 < t := by omega
          have ht2 : ¬ ((t : Int) + 1 = 1) := by omega
          have ht3 : (1 : Int) < (t : Int) + 1 := by omega
          by_cases hd : fr rs t (nx rs a m) (nx rs b m) = t
          · rw [if_pos hd] at fin
            simp only [eTab]
            simp [L__law_far_round_3, a1, a2, b1, b2, l1, ht, ht', ht2, ht3, hd, ix, eL_len, t1, t2, st2]
            exact hQ _ ⟨_, _, _, by rw [fin]; rfl⟩
          · rw [if_neg hd] at fin
            have hd' : ¬ ((fr rs t (nx rs a m) (nx rs b m) : Nat) : Int) = t := by omega
            simp only [eTab]
            simp [L__law_far_round_3, a1, a2, b1, b2, l1, ht, ht', ht2, ht3, hd, hd', ix, eL_len, t1, t2]
            exact hQ _ ⟨_, _, _, by rw [fin]; rfl⟩
      · rw [if_pos h] at fin
        have h' : ¬ ((c : Nat) : Int) = 0 := by omega
        simp [L__law_far_round_3, a1, a2, b1, b2, l1, h, h']
        exact hQ _ ⟨_, _, _, by rw [fin]⟩)
    ⟨_, _, _, by rw [fm_0, show eL rs.length (upd g b (fr rs t a b)) = eL rs.length g from eL_congr fun c _ => by
      unfold upd
      split
      · rename_i e; rw [e, hg]
      · rfl]⟩
  exact ⟨_, _, _, q⟩
theorem o_eTab {t a : Nat} (ha : a < rs.length) : idxD (eTab rs t) (.int a) = some (.sh (.lst (eL rs.length (fr rs t a)))) := by
  show (atI _ _).map _ = _
  rw [eTab_at ha]; rfl
theorem line_loop (O : RowsOk rs) {t a : Nat} (ha : a < rs.length) {found : List D} {j6 j7 j8 j9 : DL.Slot} :
    ∃ j6' j7' j8' j9', forL 6 L__law_far_round_2 (rngD 0 rs.length) [.sh (.lst (rs.map eRow)), .sh (eTab rs t), .sh (.int ((t : Int) + 1)), .ow found, .sh (.int a), .ow (eL rs.length (fr rs t a)), j6, j7, j8, j9] =
      .ok .nx [.sh (.lst (rs.map eRow)), .sh (eTab rs t), .sh (.int ((t : Int) + 1)), .ow found, .sh (.int a), .ow (eL rs.length (fr rs (t + 1) a)), j6', j7', j8', j9'] := by
  obtain ⟨e', q, ⟨j6', j7', j8', j9', rfl⟩⟩ := for_rngQ (ix := 6) (body := L__law_far_round_2) (lo := 0) (n := rs.length) (e := [.sh (.lst (rs.map eRow)), .sh (eTab rs t), .sh (.int ((t : Int) + 1)), .ow found, .sh (.int a), .ow (eL rs.length (fr rs t a)), j6, j7, j8, j9])
    (fun b e => ∃ j6' j7' j8' j9', e = [.sh (.lst (rs.map eRow)), .sh (eTab rs t), .sh (.int ((t : Int) + 1)), .ow found, .sh (.int a), .ow (eL rs.length (fun c => if c < b then fr rs (t + 1) a c else fr rs t a c)), j6', j7', j8', j9'])
    (by
      rintro b e hb ⟨j6', j7', j8', j9', rfl⟩ Q hQ
      obtain ⟨k7, k8, k9, q⟩ := ev_loop O (t := t) ha hb (g := fun c => if c < b then fr rs (t + 1) a c else fr rs t a c) (by simp) (found := found) (j7 := j7') (j8 := j8') (j9 := j9')
      rw [show eL rs.length (upd (fun c => if c < b then fr rs (t + 1) a c else fr rs t a c) b (fr rs (t + 1) a b)) = eL rs.length (fun c => if c < b + 1 then fr rs (t + 1) a c else fr rs t a c) from eL_congr fun c _ => by
        unfold upd
        dsimp only
        by_cases e : c = b
        · subst e; simp
        · rw [if_neg e]
          by_cases l : c < b
          · rw [if_pos l, if_pos (by omega)]
          · rw [if_neg l, if_neg (by omega)]] at q
      generalize eL rs.length (fun c => if c < b then fr rs (t + 1) a c else fr rs t a c) = K at *
      generalize eL rs.length (fun c => if c < b + 1 then fr rs (t + 1) a c else fr rs t a c) = K' at *
      simp [L__law_far_round_2, q]
      exact hQ _ ⟨_, _, _, _, rfl⟩)
    ⟨j6, j7, j8, j9, by rw [show eL rs.length (fun c => if c < 0 then fr rs (t + 1) a c else fr rs t a c) = eL rs.length (fr rs t a) from eL_congr fun c _ => by simp]⟩
  refine ⟨j6', j7', j8', j9', ?_⟩
  rw [q, show eL rs.length (fun c => if c < rs.length then fr rs (t + 1) a c else fr rs t a c) = eL rs.length (fr rs (t + 1) a) from eL_congr fun c hc => by rw [if_pos hc]]
theorem round_eq (O : RowsOk rs) (hn : rs.length ≤ 30) {t : Nat} :
    F__law_far_round [.lst (rs.map eRow), eTab rs t, .int ((t : Int) + 1)] = .ok (.fr ((List.range rs.length).map fun a => D.lst (eL rs.length (fr rs (t + 1) a)))) := by
  obtain ⟨e', q, ⟨j4, j5, j6, j7, j8, j9, rfl⟩⟩ := for_rngQ (ix := 4) (body := L__law_far_round_1) (lo := 0) (n := rs.length) (e := [.sh (.lst (rs.map eRow)), .sh (eTab rs t), .sh (.int ((t : Int) + 1)), .ow [], .un, .un, .un, .un, .un, .un])
    (fun a e => ∃ j4 j5 j6 j7 j8 j9, e = [.sh (.lst (rs.map eRow)), .sh (eTab rs t), .sh (.int ((t : Int) + 1)), .ow ((List.range a).map fun a => D.lst (eL rs.length (fr rs (t + 1) a))), j4, j5, j6, j7, j8, j9])
    (by
      rintro a e ha ⟨j4, j5, j6, j7, j8, j9, rfl⟩ Q hQ
      obtain ⟨k6, k7, k8, k9, q⟩ := line_loop O (t := t) ha (found := (List.range a).map fun a => D.lst (eL rs.length (fr rs (t + 1) a))) (j6 := j6) (j7 := j7) (j8 := j8) (j9 := j9)
      have o := o_eTab (t := t) ha
      have z : ((List.range a).map fun a => D.lst (eL rs.length (fr rs (t + 1) a))).length < 100000 := by simp; omega
      have ad : ((List.range (a + 1)).map fun a => D.lst (eL rs.length (fr rs (t + 1) a))) = ((List.range a).map fun a => D.lst (eL rs.length (fr rs (t + 1) a))) ++ [D.lst (eL rs.length (fr rs (t + 1) a))] := by
        rw [List.range_succ, List.map_append]; rfl
      rw [ad] at hQ
      generalize ((List.range a).map fun a => D.lst (eL rs.length (fr rs (t + 1) a))) = K at *
      simp [L__law_far_round_1, o, q, z, near_nat (show rs.length < 1000000 by omega)]
      exact hQ _ ⟨_, _, _, _, _, _, rfl⟩)
    ⟨_, _, _, _, _, _, rfl⟩
  simp [F__law_far_round, B__law_far_round, near_nat (show rs.length < 1000000 by omega), q]
theorem ok_eL {n : Nat} {g : Nat → Nat} : (D.lst (eL n g)).ok = true := by
  have := ok_ints (ns := (List.range n).map fun b => (g b : Int))
  rw [List.map_map] at this
  exact this
theorem ok_eTab {t : Nat} : (eTab rs t).ok = true := by
  refine ok_of ?_ ?_
  · simp only [eTab, D.pur]
    refine purL_map fun a _ => ?_
    simp only [eL, D.pur]
    exact purL_map fun _ _ => rfl
  · simp only [eTab, D.dep]
    have : depL ((List.range rs.length).map fun a => D.lst (eL rs.length (fr rs t a))) ≤ 1 := depL_map fun a _ => by
      simp only [eL, D.dep]
      have := depL_map (f := fun b => D.int (fr rs t a b)) (xs := List.range rs.length) (n := 0) (fun _ _ => Nat.le_refl 0)
      omega
    omega
theorem eTab_congr {t s : Nat} (h : ∀ a b, a < rs.length → b < rs.length → fr rs t a b = fr rs s a b) : eTab rs t = eTab rs s := by
  unfold eTab
  congr 1
  exact List.map_congr_left fun a ha => by rw [eL_congr (g' := fr rs s a) fun b hb => h a b (List.mem_range.mp ha) hb]
theorem eTab_inj {t s : Nat} (h : eTab rs t = eTab rs s) : ∀ a b, a < rs.length → b < rs.length → fr rs t a b = fr rs s a b := by
  intro a b ha hb
  have := o_eTab (t := t) ha
  rw [h, o_eTab ha] at this
  have := Option.some.inj this
  injection this with this
  injection this with this
  exact (eL_inj this b hb).symm
theorem far_eq (O : RowsOk rs) (hn : rs.length ≤ 30) : F__law_far [.lst (rs.map eRow)] = .ok (.sh (eTab rs rs.length)) := by
  have hz : ∀ e : List DL.Slot, e[2]? = some .un → compL 2 yesT (kc (.int 0)) (rs.map eRow) [] e = .ok ((rs.map fun _ => (0 : Int)).map D.int) e := fun e h => by
    exact comp_all (ix := 2) (f := kc (.int 0)) (e := e) (g := eRow) (g' := D.int) (w := fun _ => 0) (xs := rs) (by omega) (fun x _ => ⟨.sh (.int 0), by simp, rfl⟩) h
  have hz2 : ∀ e : List DL.Slot, e.length = 6 → e[0]? = some (.sh (.lst (rs.map eRow))) → e[2]? = some .un → e[3]? = some .un → compL 3 yesT (compE 2 (itL (v 0)) yesT (kc (.int 0))) (rs.map eRow) [] e = .ok ((rs.map fun _ => (rs.map fun _ => (0 : Int)).map D.int).map D.lst) e := fun e hl h0 h2 h3 => by
    refine comp_all (ix := 3) (f := compE 2 (itL (v 0)) yesT (kc (.int 0))) (e := e) (g := eRow) (g' := D.lst) (w := fun _ => (rs.map fun _ => (0 : Int)).map D.int) (xs := rs) (by omega) (fun x _ => ⟨.fr ((rs.map fun _ => (0 : Int)).map D.int), ?_, rfl⟩) h3
    have a0 : (e.set 3 (.sh (eRow x)))[0]? = some (.sh (.lst (rs.map eRow))) := by rw [List.getElem?_set_ne (by omega)]; exact h0
    have a2 : (e.set 3 (.sh (eRow x)))[2]? = some .un := by rw [List.getElem?_set_ne (by omega)]; exact h2
    have hl' : (e.set 3 (.sh (eRow x))).length = 6 := by simpa using hl
    generalize e.set 3 (.sh (eRow x)) = e' at *
    have : e'.set 2 .un = e' := by
      apply List.ext_getElem?
      intro i
      rw [List.getElem?_set]
      split
      · rename_i hh; subst hh; rw [if_pos (by omega)]; exact a2.symm
      · rfl
    simp [a0, a2, this, hz e' a2]
  have t0 : D.lst ((rs.map fun _ => (rs.map fun _ => (0 : Int)).map D.int).map D.lst) = eTab rs 0 := by
    unfold eTab
    congr 1
    apply List.ext_getElem?
    intro i
    by_cases hi : i < rs.length
    · simp [hi, eL, fr]
      apply List.ext_getElem?
      intro j
      by_cases hj : j < rs.length <;> simp [hj]
    · simp [hi]
  have done : ∀ k, eTab rs (k + 1) = eTab rs k → eTab rs k = eTab rs rs.length := by
    intro k h
    have h := eTab_inj h
    cases k with
    | zero => exact eTab_congr fun a b ha hb => (fr_stop0 O (fun a b ha hb => h a b ha hb) ha hb).symm
    | succ k => exact eTab_congr fun a b ha hb => fr_stop O (by omega) h ha hb
  rcases for_rngR (ix := 4) (body := L__law_far_1) (lo := 1) (n := rs.length) (e := [.sh (.lst (rs.map eRow)), .sh (eTab rs 0), .un, .un, .un, .un]) (fun r => r = .sh (eTab rs rs.length))
    (fun k e => ∃ j4 j5, e = [.sh (.lst (rs.map eRow)), .sh (eTab rs k), .un, .un, j4, j5])
    (by
      rintro k e hk ⟨j4, j5, rfl⟩ Q hQ
      have r := round_eq O hn (t := k)
      rw [Int.add_comm] at r
      have c : eqD (eTab rs (k + 1)) (eTab rs k) = some (.sh (.bl (decide (eTab rs (k + 1) = eTab rs k)))) := o_eqD ok_eTab ok_eTab
      by_cases h : eTab rs (k + 1) = eTab rs k
      · have d := done k h
        simp only [h] at c
        have r' : F__law_far_round [.lst (rs.map eRow), eTab rs k, .int (1 + (k : Int))] = .ok (.fr ((List.range rs.length).map fun a => D.lst (eL rs.length (fr rs (k + 1) a)))) := r
        have h' : D.lst ((List.range rs.length).map fun a => D.lst (eL rs.length (fr rs (k + 1) a))) = eTab rs k := h
        simp [L__law_far_1, r', h', c]
        exact d
      · simp only [h] at c
        have h' : D.lst ((List.range rs.length).map fun a => D.lst (eL rs.length (fr rs (k + 1) a))) = eTab rs (k + 1) := rfl
        simp [L__law_far_1, r, h', c]
        exact hQ _ ⟨_, _, rfl⟩)
    ⟨_, _, rfl⟩ with ⟨e', q, ⟨j4, j5, rfl⟩⟩ | ⟨r, e', q, rfl⟩
  · have z := hz2 [.sh (.lst (rs.map eRow)), .un, .un, .un, .un, .un] rfl rfl rfl rfl
    obtain ⟨K, hK⟩ : ∃ K, K = (rs.map fun _ => (rs.map fun _ => (0 : Int)).map D.int).map D.lst := ⟨_, rfl⟩
    rw [← hK] at z t0
    rw [← t0] at q
    have nn : Near ((rs.length : Int) + 1) := ⟨by omega, by omega⟩
    have nm : ((rs.length : Int) + 1 - 1).toNat = rs.length := by omega
    simp [F__law_far, B__law_far, near_nat (show rs.length < 1000000 by omega), z, nn, nm, q]
  · have z := hz2 [.sh (.lst (rs.map eRow)), .un, .un, .un, .un, .un] rfl rfl rfl rfl
    obtain ⟨K, hK⟩ : ∃ K, K = (rs.map fun _ => (rs.map fun _ => (0 : Int)).map D.int).map D.lst := ⟨_, rfl⟩
    rw [← hK] at z t0
    rw [← t0] at q
    have nn : Near ((rs.length : Int) + 1) := ⟨by omega, by omega⟩
    have nm : ((rs.length : Int) + 1 - 1).toNat = rs.length := by omega
    simp [F__law_far, B__law_far, near_nat (show rs.length < 1000000 by omega), z, nn, nm, q]
end
end My
set_option Elab.async false
set_option linter.all false
set_option maxRecDepth 100000
set_option maxHeartbeats 4000000
set_option autoImplicit false
noncomputable section
namespace My
open PySem PySem.Spec L2 DL
open PyProof.Rows hiding St
/-! ### the program's groups of states alike -/
section
variable {rs : Rows}
def rowOf (rs : Rows) (a : Nat) : Rw := (List.range 4).map fun e => (nx rs a e, dd rs a e)
theorem rows_form (O : RowsOk rs) : rs = (List.range rs.length).map (rowOf rs) := by
  apply List.ext_getElem?
  intro a
  by_cases ha : a < rs.length
  · obtain ⟨r, p, h1, h2, h3, _⟩ := row_at O ha (show 0 < 4 by omega)
    rw [h1, List.getElem?_map, List.getElem?_range ha]
    simp only [Option.map_some]
    congr 1
    apply List.ext_getElem?
    intro e
    by_cases he : e < 4
    · obtain ⟨r', p', k1, k2, k3, k4, k5, k6⟩ := row_at O ha he
      rw [h1] at k1
      cases k1
      rw [k4, k6]
      unfold rowOf
      rw [List.getElem?_map, List.getElem?_range he]; rfl
    · rw [List.getElem?_eq_none (by omega), List.getElem?_eq_none (by simp [rowOf]; omega)]
  · rw [List.getElem?_eq_none (by omega), List.getElem?_eq_none (by simp; omega)]
theorem eRows_form (O : RowsOk rs) : rs.map eRow = (List.range rs.length).map fun a => eRow (rowOf rs a) := by
  conv => lhs; rw [rows_form O]
  rw [List.map_map]; rfl
theorem eRow_form {a : Nat} : eRow (rowOf rs a) = .lst ((List.range 4).map fun e => D.tup [.int (nx rs a e), eT (dd rs a e)]) := by
  unfold eRow rowOf
  rw [List.map_map]; rfl
theorem first_at {x : D} : ∀ {ys : List D} {j : Nat}, ys[j]? = some x → (∀ i, i < j → ys[i]? ≠ some x) → firstIx x ys = some j
  | [], j, h, _ => by simp at h
  | y :: ys, 0, h, _ => by
    simp only [List.getElem?_cons_zero, Option.some.injEq] at h
    unfold firstIx
    rw [if_pos h]
  | y :: ys, j + 1, h, n => by
    have h0 := n 0 (by omega)
    simp only [List.getElem?_cons_zero, ne_eq, Option.some.injEq] at h0
    unfold firstIx
    rw [if_neg h0, first_at (j := j) (by simpa using h) (fun i hi => by have := n (i + 1) (by omega); simpa using this)]
    rfl
theorem grouped_eq {n t : Nat} (hn : n ≤ 30) {mk : Nat → D} (ok1 : ∀ a, (mk a).ok = true) (ok2 : (D.lst ((List.range n).map mk)).ok = true) (h : ∀ a b, a < n → b < n → (mk b = mk a ↔ eqv rs t b a = true)) :
    F_grouped [.lst ((List.range n).map mk)] = .ok (.fr (eL n (rep rs t))) := by
  have hf : ∀ a, a < n → indexD (.lst ((List.range n).map mk)) [mk a] = some (.sh (.int (rep rs t a : Nat))) := by
    intro a ha
    obtain ⟨h1, h2, h3⟩ := rep_spec (rs := rs) (t := t) (a := a)
    show (if _ then _ else _) = _
    rw [if_pos (by rw [ok1, ok2]; rfl), first_at (j := rep rs t a)]
    · rfl
    · rw [List.getElem?_map, List.getElem?_range (by omega)]
      simp only [Option.map_some, Option.some.injEq]
      exact (h a _ ha (by omega)).mpr h2
    · intro i hi
      rw [List.getElem?_map, List.getElem?_range (by omega)]
      simp only [Option.map_some, ne_eq, Option.some.injEq]
      intro e
      have := (h a i ha (by omega)).mp e
      rw [h3 i hi] at this
      cases this
  obtain ⟨K, hK⟩ : ∃ K, K = (List.range n).map mk := ⟨_, rfl⟩
  rw [← hK] at hf
  have c := comp_all (ix := 1) (f := indexE (v 0) (v 1)) (e := [.sh (.lst K), .un]) (g := mk) (g' := D.int) (w := fun a => (rep rs t a : Int)) (xs := List.range n) (by simp; omega) (fun x hx => ⟨.sh (.int (rep rs t x : Nat)), by simp [hf x (List.mem_range.mp hx)], rfl⟩) rfl
  rw [← hK] at c ⊢
  rw [show ((List.range n).map fun a => (rep rs t a : Int)).map D.int = eL n (rep rs t) by rw [List.map_map]; rfl] at c
  simp [F_grouped, B_grouped, c]
def mk0 (rs : Rows) (a : Nat) : D := .lst ((List.range 4).map fun e => eT (dd rs a e))
def mkS (rs : Rows) (t a : Nat) : D := .lst (.int (rep rs t a) :: (List.range 4).map fun e => .int (rep rs t (nx rs a e)))
theorem dep_eT {w : List Int} : (eT w).dep ≤ 1 := by
  simp only [eT, D.dep]
  have := depL_map (f := D.int) (xs := w) (n := 0) (fun _ _ => Nat.le_refl 0)
  omega
theorem pur_eT {w : List Int} : (eT w).pur = true := by
  simp only [eT, D.pur]
  exact purL_map fun _ _ => rfl
theorem dep_mk0 {a : Nat} : (mk0 rs a).dep ≤ 2 := by
  simp only [mk0, D.dep]
  have := depL_map (f := fun e => eT (dd rs a e)) (xs := List.range 4) (n := 1) (fun _ _ => dep_eT)
  omega
theorem pur_mk0 {a : Nat} : (mk0 rs a).pur = true := by
  simp only [mk0, D.pur]
  exact purL_map fun _ _ => pur_eT
theorem dep_mkS {t a : Nat} : (mkS rs t a).dep ≤ 1 := by
  simp only [mkS, D.dep, depL]
  have := depL_map (f := fun e => D.int (rep rs t (nx rs a e))) (xs := List.range 4) (n := 0) (fun _ _ => Nat.le_refl 0)
  omega
theorem pur_mkS {t a : Nat} : (mkS rs t a).pur = true := by
  simp only [mkS, D.pur, purL, Bool.true_and]
  exact purL_map fun _ _ => rfl
theorem ok_map {n k : Nat} {mk : Nat → D} (h1 : ∀ a, (mk a).pur = true) (h2 : ∀ a, (mk a).dep ≤ k) (hk : k ≤ 50) : (D.lst ((List.range n).map mk)).ok = true := by
  refine ok_of ?_ ?_
  · simp only [D.pur]
    exact purL_map fun a _ => h1 a
  · simp only [D.dep]
    have := depL_map (f := mk) (xs := List.range n) (n := k) (fun a _ => h2 a)
    omega
theorem map4_inj {f g : Nat → D} : ((List.range 4).map f = (List.range 4).map g) ↔ ∀ e, e < 4 → f e = g e := by
  constructor
  · intro h e he
    have := congrArg (·[e]?) h
    simp only [List.getElem?_map, List.getElem?_range he, Option.map_some, Option.some.injEq] at this
    exact this
  · intro h
    exact List.map_congr_left fun e he => h e (List.mem_range.mp he)
theorem mk0_iff {a b : Nat} : mk0 rs b = mk0 rs a ↔ eqv rs 1 b a = true := by
  unfold mk0
  rw [D.lst.injEq, map4_inj, eqv_s]
  constructor
  · intro h e he; exact ⟨eT_inj.mp (h e he), rfl⟩
  · intro h e he; exact eT_inj.mpr (h e he).1
theorem mkS_iff {t a b : Nat} : mkS rs (t + 1) b = mkS rs (t + 1) a ↔ eqv rs (t + 2) b a = true := by
  unfold mkS
  rw [D.lst.injEq, List.cons.injEq, map4_inj]
  simp only [D.int.injEq, Int.natCast_inj, rep_eq]
  constructor
  · rintro ⟨h, k⟩
    exact eqv_s.mpr fun e he => ⟨((eqv_s.mp h) e he).1, k e he⟩
  · intro h
    exact ⟨eqv_down h, fun e he => ((eqv_s.mp h) e he).2⟩
theorem rep_all (O : RowsOk rs) {a t : Nat} (ha : a < rs.length) (ht : rs.length ≤ t) : rep rs t a = rep rs rs.length a := by
  have h : ∀ b ∈ List.range (a + 1), eqv rs t b a = eqv rs rs.length b a := fun b hb => eqv_all O (by have := List.mem_range.mp hb; omega) ha ht
  unfold rep
  congr 1
  generalize List.range (a + 1) = l at h
  induction l with
  | nil => rfl
  | cons x l ih =>
    simp only [List.find?_cons, h x (List.mem_cons_self ..)]
    rw [ih fun b hb => h b (List.mem_cons_of_mem _ hb)]
end
end My
set_option Elab.async false
set_option linter.all false
set_option maxRecDepth 100000
set_option maxHeartbeats 4000000
set_option autoImplicit false
noncomputable section
namespace My
open PySem PySem.Spec L2 DL
open PyProof.Rows hiding St
/-! ### two halls: what is drawn, what the law walks (plain) -/
def hlR (a b : Nat) (k0 k1 : Str) (ex : Bool) : List Rm := [((-1 : Int), ("one" : Str)), (0, "all"), (1, k0), (1, k1)] ++ (List.range a).map (fun _ => ((2 : Int), ("plain" : Str))) ++ (List.range b).map (fun _ => ((3 : Int), ("plain" : Str))) ++ if ex = true then [((0 : Int), ("plain" : Str))] else []
def hlA (a b : Nat) (ex : Bool) : List Ar := (List.range a).map (fun k => ⟨4 + k, 0, -1, 4 + (k + 1) % a, k⟩) ++ (List.range b).map (fun k => ⟨4 + a + k, 1, -1, 4 + a + (k + 1) % b, 50 + k⟩) ++ if ex = true then [⟨1, 2, -1, 4 + a + b, 99⟩] else []
abbrev Pl := Option (Nat × Nat)
def gon (a b : Nat) (ex : Bool) : Pl → Nat → Pl × List Int
  | none, _ => (none, [])
  | some (i, j), e => if e = 3 ∨ (e = 2 ∧ ex = false) then (some (i, j), []) else if e = 0 then (some ((i + 1) % a, j), [(i : Int)]) else if e = 1 then (some (i, (j + 1) % b), [(50 + j : Nat)]) else (none, [99])
def lev (a b : Nat) (ex : Bool) (here : Nat) : List Nat → List Pl → List (List Int) → Rw → List Pl × List (List Int) × Rw
  | [], ps, ws, row => (ps, ws, row)
  | e :: r, ps, ws, row => if (gon a b ex (ps.getD here none) e).1 ∈ ps then lev a b ex here r ps ws (row ++ [(ps.idxOf (gon a b ex (ps.getD here none) e).1, (gon a b ex (ps.getD here none) e).2)])
    else lev a b ex here r (ps ++ [(gon a b ex (ps.getD here none) e).1]) (ws ++ [ws.getD here [] ++ [(e : Int)]]) (row ++ [(ps.length, (gon a b ex (ps.getD here none) e).2)])
def lwh (a b : Nat) (ex : Bool) : Nat → List Pl → List (List Int) → List Rw → Option (List Pl × List (List Int) × List Rw)
  | 0, _, _, _ => none
  | n + 1, ps, ws, rows => if rows.length < ps.length then lwh a b ex n (lev a b ex rows.length [0, 1, 2, 3] ps ws []).1 (lev a b ex rows.length [0, 1, 2, 3] ps ws []).2.1 (rows ++ [(lev a b ex rows.length [0, 1, 2, 3] ps ws []).2.2]) else some (ps, ws, rows)
def lwk (a b : Nat) (ex : Bool) := lwh a b ex 40 [some (0, 0)] [[]] []
def stK (a b : Nat) : Pl → List Nat
  | none => [0, 4 + a + b]
  | some (i, j) => [0, 1, 2, 3, 4 + i, 4 + a + j]
def stM (a b : Nat) (k0 k1 : Str) (ex : Bool) : Pl → List Int
  | none => List.replicate (4 + a + b + if ex = true then 1 else 0) (-1)
  | some (i, j) => let m := List.replicate (4 + a + b + if ex = true then 1 else 0) (-1 : Int)
    let m := if k0 = "keep" then m.set 2 ((4 + i : Nat) : Int) else m
    if k1 = "keep" then m.set 3 ((4 + a + j : Nat) : Int) else m
def stB (a b : Nat) (k0 k1 : Str) (ex : Bool) (c : List Int) (p : Pl) : Bool := decide (asc (hlR a b k0 k1 ex) (zN (zOf c)) = stK a b p) && decide (mems (hlR a b k0 k1 ex) (zOf c) = stM a b k0 k1 ex p)
def all2 {α β : Type} (f : α → β → Bool) : List α → List β → Bool
  | [], [] => true
  | x :: xs, y :: ys => f x y && all2 f xs ys
  | _, _ => false
def hlB (a b : Nat) (k0 k1 : Str) (ex : Bool) : Bool := wfB (hlR a b k0 k1 ex) && ((hlA a b ex).all (fun x => gaB (hlR a b k0 k1 ex) x && decide (0 ≤ x.deed ∧ x.deed < 100)) && (match lwk a b ex with
  | none => false
  | some (ps, ws, rows) => decide (rows.length = ps.length) && decide (ps.length ≤ 100) && (match fold0 (hlR a b k0 k1 ex) (hlA a b ex) with
    | .ok zs ws' rows' => decide (ps.length ≤ 30) && (decide (ws' = ws) && (decide (rows' = rows) && all2 (stB a b k0 k1 ex) zs ps))
    | .many => decide (30 < ps.length)
    | _ => false)))
end My
set_option Elab.async false
set_option linter.all false
set_option maxRecDepth 100000
set_option maxHeartbeats 4000000
set_option autoImplicit false
noncomputable section
namespace My
open PySem PySem.Spec L2 DL
open PyProof.Rows hiding St
/-! ### the law's walk over the places -/
def ePl : Pl → D
  | none => .non
  | some (i, j) => .tup [.int i, .int j]
theorem ePl_inj {p q : Pl} (h : ePl p = ePl q) : p = q := by
  cases p with
  | none =>
    cases q with
    | none => rfl
    | some y => cases h
  | some x =>
    cases q with
    | none => cases h
    | some y =>
      simp only [ePl] at h
      injection h with h
      obtain ⟨h1, h2⟩ := List.cons.inj h
      obtain ⟨h2, _⟩ := List.cons.inj h2
      injection h1 with h1
      injection h2 with h2
      have e1 : x.1 = y.1 := by omega
      have e2 : x.2 = y.2 := by omega
      rw [Prod.ext e1 e2]
theorem ePl_ok {p : Pl} : (ePl p).ok = true := by
  cases p with
  | none => rfl
  | some x => exact ok_intsT (ns := [(x.1 : Int), (x.2 : Int)])
theorem ePls_ok {ps : List Pl} : (D.lst (ps.map ePl)).ok = true := by
  refine ok_of ?_ ?_
  · simp only [D.pur]
    exact purL_map fun p _ => by cases p <;> rfl
  · simp only [D.dep]
    have := depL_map (f := ePl) (xs := ps) (n := 1) (fun p _ => by cases p <;> simp [ePl, D.dep, depL])
    omega
theorem inB_ok2 {x : D} {xs : List D} (h1 : x.ok = true) (h2 : (D.lst xs).ok = true) : inB x (.lst xs) = some (decide (x ∈ xs)) := by
  unfold inB
  simp only [h1, h2, Bool.and_self, if_true]
  split <;> rfl
theorem nin_pl {q : Pl} {ps : List Pl} : ninD (ePl q) (.lst (ps.map ePl)) = some (.sh (.bl (!decide (q ∈ ps)))) := by
  have hm : ePl q ∈ ps.map ePl ↔ q ∈ ps := by
    rw [List.mem_map]
    constructor
    · rintro ⟨c', h1, h2⟩; rw [← ePl_inj h2]; exact h1
    · intro h; exact ⟨q, h, rfl⟩
  show (inB _ _).map _ = _
  rw [inB_ok2 ePl_ok ePls_ok]
  simp only [Option.map_some, hm]
theorem first_pl {x : Pl} : ∀ {T : List Pl}, x ∈ T → firstIx (ePl x) (T.map ePl) = some (T.idxOf x)
  | [], h => by cases h
  | y :: T, h => by
    rw [List.map_cons]
    unfold firstIx
    rw [List.idxOf_cons]
    by_cases e : y = x
    · subst e; simp
    · have : ¬ (ePl y = ePl x) := fun q => e (ePl_inj q)
      rw [if_neg this, first_pl (T := T) (by simpa [Ne.symm e] using h)]
      have : (y == x) = false := by simp [e]
      simp [this]
theorem index_pl {x : Pl} {T : List Pl} (h : x ∈ T) : indexD (.lst (T.map ePl)) [ePl x] = some (.sh (.int (T.idxOf x : Nat))) := by
  show (if _ then _ else _) = _
  rw [if_pos (by rw [ePl_ok, ePls_ok]; rfl), first_pl h]
  rfl
theorem idx_newP {zs : List Pl} {c : Pl} (h : c ∉ zs) : (zs ++ [c]).idxOf c = zs.length := by
  rw [List.idxOf_append, if_neg h]
  simp
theorem add_wayP {w : List Int} {ev : Int} (h : w.length < 1000) : addD (eT w) (.tup [.int ev]) = some (.sh (eT (w ++ [ev]))) := add_way h
/-- the ways stay short -/
structure LI (ps : List Pl) (ws : List (List Int)) : Prop where
  wl : ws.length = ps.length
  ww : ∀ w ∈ ws, w.length < ws.length
  pl : ps.length ≤ 500
theorem rng4N : rngD 0 4 = ([0, 1, 2, 3] : List Nat).map fun e => D.int (0 + (e : Nat)) := by simp [rngD, List.range_succ]
end My
set_option Elab.async false
set_option linter.all false
set_option maxRecDepth 100000
set_option maxHeartbeats 4000000
set_option autoImplicit false
noncomputable section
namespace My
open PySem PySem.Spec L2 DL
open PyProof.Rows hiding St
/-! ### two halls with a way out of each (plain) -/
def hcA (a b f g : Nat) : List Ar := hlA a b false ++ [⟨4 + f, 3, -1, 4 + a + b, 98⟩, ⟨4 + a + g, 3, -1, 4 + a + b, 99⟩]
def bev (a b f g : Nat) : Pl → Nat → Pl
  | none, _ => none
  | some (i, j), e => if e = 2 then some (i, j) else if e = 0 then some ((i + 1) % a, j) else if e = 1 then some (i, (j + 1) % b) else if i = f ∨ j = g then none else some (i, j)
inductive LM where
  | go (ps : List Pl) (ws : List (List Int)) | met (w : List Int) | full
def lme (a b f g here : Nat) : List Nat → List Pl → List (List Int) → LM
  | [], ps, ws => .go ps ws
  | e :: r, ps, ws => if e = 3 ∧ ps.getD here none = some (f, g) then .met (ws.getD here [] ++ [(e : Int)]) else
    if bev a b f g (ps.getD here none) e ∈ ps then lme a b f g here r ps ws else
    if ps.length = 30 then .full else lme a b f g here r (ps ++ [bev a b f g (ps.getD here none) e]) (ws ++ [ws.getD here [] ++ [(e : Int)]])
def lmw (a b f g : Nat) : Nat → Nat → List Pl → List (List Int) → Option (Option (List Int))
  | 0, _, _, _ => none
  | n + 1, here, ps, ws => if here < ps.length then (match lme a b f g here [0, 1, 2, 3] ps ws with
    | .go ps' ws' => lmw a b f g n (here + 1) ps' ws'
    | .met w => some (some w)
    | .full => some none) else some none
def fmw (a b f g : Nat) := lmw a b f g 40 0 [some (0, 0)] [[]]
def hcB (a b f g : Nat) : Bool := wfB (hlR a b "one" "one" true) && ((hcA a b f g).all (fun x => gaB (hlR a b "one" "one" true) x && decide (0 ≤ x.deed ∧ x.deed < 100)) && (match fold0 (hlR a b "one" "one" true) (hcA a b f g) with
    | .cl w x y => decide (fmw a b f g = some (some w) ∧ x = a + b ∧ y = a + b + 1)
    | .many => decide (fmw a b f g = some none)
    | _ => false))
end My
set_option Elab.async false
set_option linter.all false
set_option maxRecDepth 100000
set_option maxHeartbeats 4000000
set_option autoImplicit false
noncomputable section
namespace My
open PySem PySem.Spec L2 DL
open PyProof.Rows hiding St
def hcF (a b f : Nat) : Bool := (List.range b).all fun g => hcB a b f g
theorem hc_110 : hcF 1 1 0 = true := by decide +kernel
theorem hc_120 : hcF 1 2 0 = true := by decide +kernel
theorem hc_130 : hcF 1 3 0 = true := by decide +kernel
theorem hc_140 : hcF 1 4 0 = true := by decide +kernel
theorem hc_150 : hcF 1 5 0 = true := by decide +kernel
theorem hc_210 : hcF 2 1 0 = true := by decide +kernel
theorem hc_211 : hcF 2 1 1 = true := by decide +kernel
theorem hc_220 : hcF 2 2 0 = true := by decide +kernel
theorem hc_221 : hcF 2 2 1 = true := by decide +kernel
theorem hc_230 : hcF 2 3 0 = true := by decide +kernel
theorem hc_231 : hcF 2 3 1 = true := by decide +kernel
theorem hc_240 : hcF 2 4 0 = true := by decide +kernel
theorem hc_241 : hcF 2 4 1 = true := by decide +kernel
theorem hc_250 : hcF 2 5 0 = true := by decide +kernel
theorem hc_251 : hcF 2 5 1 = true := by decide +kernel
theorem hc_310 : hcF 3 1 0 = true := by decide +kernel
theorem hc_311 : hcF 3 1 1 = true := by decide +kernel
theorem hc_312 : hcF 3 1 2 = true := by decide +kernel
theorem hc_320 : hcF 3 2 0 = true := by decide +kernel
theorem hc_321 : hcF 3 2 1 = true := by decide +kernel
theorem hc_322 : hcF 3 2 2 = true := by decide +kernel
theorem hc_330 : hcF 3 3 0 = true := by decide +kernel
theorem hc_331 : hcF 3 3 1 = true := by decide +kernel
theorem hc_332 : hcF 3 3 2 = true := by decide +kernel
theorem hc_340 : hcF 3 4 0 = true := by decide +kernel
theorem hc_341 : hcF 3 4 1 = true := by decide +kernel
theorem hc_342 : hcF 3 4 2 = true := by decide +kernel
theorem hc_350 : hcF 3 5 0 = true := by decide +kernel
theorem hc_351 : hcF 3 5 1 = true := by decide +kernel
theorem hc_352 : hcF 3 5 2 = true := by decide +kernel
theorem hc_410 : hcF 4 1 0 = true := by decide +kernel
theorem hc_411 : hcF 4 1 1 = true := by decide +kernel
theorem hc_412 : hcF 4 1 2 = true := by decide +kernel
theorem hc_413 : hcF 4 1 3 = true := by decide +kernel
theorem hc_420 : hcF 4 2 0 = true := by decide +kernel
theorem hc_421 : hcF 4 2 1 = true := by decide +kernel
theorem hc_422 : hcF 4 2 2 = true := by decide +kernel
theorem hc_423 : hcF 4 2 3 = true := by decide +kernel
theorem hc_430 : hcF 4 3 0 = true := by decide +kernel
theorem hc_431 : hcF 4 3 1 = true := by decide +kernel
theorem hc_432 : hcF 4 3 2 = true := by decide +kernel
theorem hc_433 : hcF 4 3 3 = true := by decide +kernel
theorem hc_440 : hcF 4 4 0 = true := by decide +kernel
theorem hc_441 : hcF 4 4 1 = true := by decide +kernel
theorem hc_442 : hcF 4 4 2 = true := by decide +kernel
theorem hc_443 : hcF 4 4 3 = true := by decide +kernel
theorem hc_450 : hcF 4 5 0 = true := by decide +kernel
theorem hc_451 : hcF 4 5 1 = true := by decide +kernel
theorem hc_452 : hcF 4 5 2 = true := by decide +kernel
theorem hc_453 : hcF 4 5 3 = true := by decide +kernel
theorem hc_510 : hcF 5 1 0 = true := by decide +kernel
theorem hc_511 : hcF 5 1 1 = true := by decide +kernel
theorem hc_512 : hcF 5 1 2 = true := by decide +kernel
theorem hc_513 : hcF 5 1 3 = true := by decide +kernel
theorem hc_514 : hcF 5 1 4 = true := by decide +kernel
theorem hc_520 : hcF 5 2 0 = true := by decide +kernel
theorem hc_521 : hcF 5 2 1 = true := by decide +kernel
theorem hc_522 : hcF 5 2 2 = true := by decide +kernel
theorem hc_523 : hcF 5 2 3 = true := by decide +kernel
theorem hc_524 : hcF 5 2 4 = true := by decide +kernel
theorem hc_530 : hcF 5 3 0 = true := by decide +kernel
theorem hc_531 : hcF 5 3 1 = true := by decide +kernel
theorem hc_532 : hcF 5 3 2 = true := by decide +kernel
theorem hc_533 : hcF 5 3 3 = true := by decide +kernel
theorem hc_534 : hcF 5 3 4 = true := by decide +kernel
theorem hc_540 : hcF 5 4 0 = true := by decide +kernel
theorem hc_541 : hcF 5 4 1 = true := by decide +kernel
theorem hc_542 : hcF 5 4 2 = true := by decide +kernel
theorem hc_543 : hcF 5 4 3 = true := by decide +kernel
theorem hc_544 : hcF 5 4 4 = true := by decide +kernel
theorem hc_550 : hcF 5 5 0 = true := by decide +kernel
theorem hc_551 : hcF 5 5 1 = true := by decide +kernel
theorem hc_552 : hcF 5 5 2 = true := by decide +kernel
theorem hc_553 : hcF 5 5 3 = true := by decide +kernel
theorem hc_554 : hcF 5 5 4 = true := by decide +kernel
theorem hc_610 : hcF 6 1 0 = true := by decide +kernel
theorem hc_611 : hcF 6 1 1 = true := by decide +kernel
theorem hc_612 : hcF 6 1 2 = true := by decide +kernel
theorem hc_613 : hcF 6 1 3 = true := by decide +kernel
theorem hc_614 : hcF 6 1 4 = true := by decide +kernel
theorem hc_615 : hcF 6 1 5 = true := by decide +kernel
theorem hc_620 : hcF 6 2 0 = true := by decide +kernel
theorem hc_621 : hcF 6 2 1 = true := by decide +kernel
theorem hc_622 : hcF 6 2 2 = true := by decide +kernel
theorem hc_623 : hcF 6 2 3 = true := by decide +kernel
theorem hc_624 : hcF 6 2 4 = true := by decide +kernel
theorem hc_625 : hcF 6 2 5 = true := by decide +kernel
theorem hc_630 : hcF 6 3 0 = true := by decide +kernel
theorem hc_631 : hcF 6 3 1 = true := by decide +kernel
theorem hc_632 : hcF 6 3 2 = true := by decide +kernel
theorem hc_633 : hcF 6 3 3 = true := by decide +kernel
theorem hc_634 : hcF 6 3 4 = true := by decide +kernel
theorem hc_635 : hcF 6 3 5 = true := by decide +kernel
theorem hc_640 : hcF 6 4 0 = true := by decide +kernel
theorem hc_641 : hcF 6 4 1 = true := by decide +kernel
theorem hc_642 : hcF 6 4 2 = true := by decide +kernel
theorem hc_643 : hcF 6 4 3 = true := by decide +kernel
theorem hc_644 : hcF 6 4 4 = true := by decide +kernel
theorem hc_645 : hcF 6 4 5 = true := by decide +kernel
theorem hc_650 : hcF 6 5 0 = true := by decide +kernel
theorem hc_651 : hcF 6 5 1 = true := by decide +kernel
theorem hc_652 : hcF 6 5 2 = true := by decide +kernel
theorem hc_653 : hcF 6 5 3 = true := by decide +kernel
theorem hc_654 : hcF 6 5 4 = true := by decide +kernel
theorem hc_655 : hcF 6 5 5 = true := by decide +kernel
theorem hc_560 : hcF 5 6 0 = true := by decide +kernel
theorem hc_561 : hcF 5 6 1 = true := by decide +kernel
theorem hc_562 : hcF 5 6 2 = true := by decide +kernel
theorem hc_563 : hcF 5 6 3 = true := by decide +kernel
theorem hc_564 : hcF 5 6 4 = true := by decide +kernel
theorem hk_11 {f : Nat} (h : f < 1) : hcF 1 1 f = true := by
  have : f = 0 := by omega
  rcases this with rfl
  · exact hc_110
theorem hk_12 {f : Nat} (h : f < 1) : hcF 1 2 f = true := by
  have : f = 0 := by omega
  rcases this with rfl
  · exact hc_120
theorem hk_13 {f : Nat} (h : f < 1) : hcF 1 3 f = true := by
  have : f = 0 := by omega
  rcases this with rfl
  · exact hc_130
theorem hk_14 {f : Nat} (h : f < 1) : hcF 1 4 f = true := by
  have : f = 0 := by omega
  rcases this with rfl
  · exact hc_140
theorem hk_15 {f : Nat} (h : f < 1) : hcF 1 5 f = true := by
  have : f = 0 := by omega
  rcases this with rfl
  · exact hc_150
theorem hk_21 {f : Nat} (h : f < 2) : hcF 2 1 f = true := by
  have : f = 0 ∨ f = 1 := by omega
  rcases this with rfl | rfl
  · exact hc_210
  · exact hc_211
theorem hk_22 {f : Nat} (h : f < 2) : hcF 2 2 f = true := by
  have : f = 0 ∨ f = 1 := by omega
  rcases this with rfl | rfl
  · exact hc_220
  · exact hc_221
theorem hk_23 {f : Nat} (h : f < 2) : hcF 2 3 f = true := by
  have : f = 0 ∨ f = 1 := by omega
  rcases this with rfl | rfl
  · exact hc_230
  · exact hc_231
theorem hk_24 {f : Nat} (h : f < 2) : hcF 2 4 f = true := by
  have : f = 0 ∨ f = 1 := by omega
  rcases this with rfl | rfl
  · exact hc_240
  · exact hc_241
theorem hk_25 {f : Nat} (h : f < 2) : hcF 2 5 f = true := by
  have : f = 0 ∨ f = 1 := by omega
  rcases this with rfl | rfl
  · exact hc_250
  · exact hc_251
theorem hk_31 {f : Nat} (h : f < 3) : hcF 3 1 f = true := by
  have : f = 0 ∨ f = 1 ∨ f = 2 := by omega
  rcases this with rfl | rfl | rfl
  · exact hc_310
  · exact hc_311
  · exact hc_312
theorem hk_32 {f : Nat} (h : f < 3) : hcF 3 2 f = true := by
  have : f = 0 ∨ f = 1 ∨ f = 2 := by omega
  rcases this with rfl | rfl | rfl
  · exact hc_320
  · exact hc_321
  · exact hc_322
theorem hk_33 {f : Nat} (h : f < 3) : hcF 3 3 f = true := by
  have : f = 0 ∨ f = 1 ∨ f = 2 := by omega
  rcases this with rfl | rfl | rfl
  · exact hc_330
  · exact hc_331
  · exact hc_332
theorem hk_34 {f : Nat} (h : f < 3) : hcF 3 4 f = true := by
  have : f = 0 ∨ f = 1 ∨ f = 2 := by omega
  rcases this with rfl | rfl | rfl
  · exact hc_340
  · exact hc_341
  · exact hc_342
theorem hk_35 {f : Nat} (h : f < 3) : hcF 3 5 f = true := by
  have : f = 0 ∨ f = 1 ∨ f = 2 := by omega
  rcases this with rfl | rfl | rfl
  · exact hc_350
  · exact hc_351
  · exact hc_352
theorem hk_41 {f : Nat} (h : f < 4) : hcF 4 1 f = true := by
  have : f = 0 ∨ f = 1 ∨ f = 2 ∨ f = 3 := by omega
  rcases this with rfl | rfl | rfl | rfl
  · exact hc_410
  · exact hc_411
  · exact hc_412
  · exact hc_413
theorem hk_42 {f : Nat} (h : f < 4) : hcF 4 2 f = true := by
  have : f = 0 ∨ f = 1 ∨ f = 2 ∨ f = 3 := by omega
  rcases this with rfl | rfl | rfl | rfl
  · exact hc_420
  · exact hc_421
  · exact hc_422
  · exact hc_423
theorem hk_43 {f : Nat} (h : f < 4) : hcF 4 3 f = true := by
  have : f = 0 ∨ f = 1 ∨ f = 2 ∨ f = 3 := by omega
  rcases this with rfl | rfl | rfl | rfl
  · exact hc_430
  · exact hc_431
  · exact hc_432
  · exact hc_433
theorem hk_44 {f : Nat} (h : f < 4) : hcF 4 4 f = true := by
  have : f = 0 ∨ f = 1 ∨ f = 2 ∨ f = 3 := by omega
  rcases this with rfl | rfl | rfl | rfl
  · exact hc_440
  · exact hc_441
  · exact hc_442
  · exact hc_443
theorem hk_45 {f : Nat} (h : f < 4) : hcF 4 5 f = true := by
  have : f = 0 ∨ f = 1 ∨ f = 2 ∨ f = 3 := by omega
  rcases this with rfl | rfl | rfl | rfl
  · exact hc_450
  · exact hc_451
  · exact hc_452
  · exact hc_453
theorem hk_51 {f : Nat} (h : f < 5) : hcF 5 1 f = true := by
  have : f = 0 ∨ f = 1 ∨ f = 2 ∨ f = 3 ∨ f = 4 := by omega
  rcases this with rfl | rfl | rfl | rfl | rfl
  · exact hc_510
  · exact hc_511
  · exact hc_512
  · exact hc_513
  · exact hc_514
theorem hk_52 {f : Nat} (h : f < 5) : hcF 5 2 f = true := by
  have : f = 0 ∨ f = 1 ∨ f = 2 ∨ f = 3 ∨ f = 4 := by omega
  rcases this with rfl | rfl | rfl | rfl | rfl
  · exact hc_520
  · exact hc_521
  · exact hc_522
  · exact hc_523
  · exact hc_524
theorem hk_53 {f : Nat} (h : f < 5) : hcF 5 3 f = true := by
  have : f = 0 ∨ f = 1 ∨ f = 2 ∨ f = 3 ∨ f = 4 := by omega
  rcases this with rfl | rfl | rfl | rfl | rfl
  · exact hc_530
  · exact hc_531
  · exact hc_532
  · exact hc_533
  · exact hc_534
theorem hk_54 {f : Nat} (h : f < 5) : hcF 5 4 f = true := by
  have : f = 0 ∨ f = 1 ∨ f = 2 ∨ f = 3 ∨ f = 4 := by omega
  rcases this with rfl | rfl | rfl | rfl | rfl
  · exact hc_540
  · exact hc_541
  · exact hc_542
  · exact hc_543
  · exact hc_544
theorem hk_55 {f : Nat} (h : f < 5) : hcF 5 5 f = true := by
  have : f = 0 ∨ f = 1 ∨ f = 2 ∨ f = 3 ∨ f = 4 := by omega
  rcases this with rfl | rfl | rfl | rfl | rfl
  · exact hc_550
  · exact hc_551
  · exact hc_552
  · exact hc_553
  · exact hc_554
theorem hk_61 {f : Nat} (h : f < 6) : hcF 6 1 f = true := by
  have : f = 0 ∨ f = 1 ∨ f = 2 ∨ f = 3 ∨ f = 4 ∨ f = 5 := by omega
  rcases this with rfl | rfl | rfl | rfl | rfl | rfl
  · exact hc_610
  · exact hc_611
  · exact hc_612
  · exact hc_613
  · exact hc_614
  · exact hc_615
theorem hk_62 {f : Nat} (h : f < 6) : hcF 6 2 f = true := by
  have : f = 0 ∨ f = 1 ∨ f = 2 ∨ f = 3 ∨ f = 4 ∨ f = 5 := by omega
  rcases this with rfl | rfl | rfl | rfl | rfl | rfl
  · exact hc_620
  · exact hc_621
  · exact hc_622
  · exact hc_623
  · exact hc_624
  · exact hc_625
theorem hk_63 {f : Nat} (h : f < 6) : hcF 6 3 f = true := by
  have : f = 0 ∨ f = 1 ∨ f = 2 ∨ f = 3 ∨ f = 4 ∨ f = 5 := by omega
  rcases this with rfl | rfl | rfl | rfl | rfl | rfl
  · exact hc_630
  · exact hc_631
  · exact hc_632
  · exact hc_633
  · exact hc_634
  · exact hc_635
theorem hk_64 {f : Nat} (h : f < 6) : hcF 6 4 f = true := by
  have : f = 0 ∨ f = 1 ∨ f = 2 ∨ f = 3 ∨ f = 4 ∨ f = 5 := by omega
  rcases this with rfl | rfl | rfl | rfl | rfl | rfl
  · exact hc_640
  · exact hc_641
  · exact hc_642
  · exact hc_643
  · exact hc_644
  · exact hc_645
theorem hk_65 {f : Nat} (h : f < 6) : hcF 6 5 f = true := by
  have : f = 0 ∨ f = 1 ∨ f = 2 ∨ f = 3 ∨ f = 4 ∨ f = 5 := by omega
  rcases this with rfl | rfl | rfl | rfl | rfl | rfl
  · exact hc_650
  · exact hc_651
  · exact hc_652
  · exact hc_653
  · exact hc_654
  · exact hc_655
theorem hk_56 {f : Nat} (h : f < 5) : hcF 5 6 f = true := by
  have : f = 0 ∨ f = 1 ∨ f = 2 ∨ f = 3 ∨ f = 4 := by omega
  rcases this with rfl | rfl | rfl | rfl | rfl
  · exact hc_560
  · exact hc_561
  · exact hc_562
  · exact hc_563
  · exact hc_564
theorem hc_ok {a b f g : Nat} (a1 : 1 ≤ a) (a6 : a ≤ 6) (b1 : 1 ≤ b) (hb : b ≤ 5 ∨ (a = 5 ∧ b = 6)) (hf : f < a) (hg : g < b) : hcB a b f g = true := by
  have key : hcF a b f = true := by
    rcases hb with hb | ⟨rfl, rfl⟩
    · have ha : a = 1 ∨ a = 2 ∨ a = 3 ∨ a = 4 ∨ a = 5 ∨ a = 6 := by omega
      have hb : b = 1 ∨ b = 2 ∨ b = 3 ∨ b = 4 ∨ b = 5 := by omega
      rcases ha with rfl | rfl | rfl | rfl | rfl | rfl
      · rcases hb with rfl | rfl | rfl | rfl | rfl
        · exact hk_11 hf
        · exact hk_12 hf
        · exact hk_13 hf
        · exact hk_14 hf
        · exact hk_15 hf
      · rcases hb with rfl | rfl | rfl | rfl | rfl
        · exact hk_21 hf
        · exact hk_22 hf
        · exact hk_23 hf
        · exact hk_24 hf
        · exact hk_25 hf
      · rcases hb with rfl | rfl | rfl | rfl | rfl
        · exact hk_31 hf
        · exact hk_32 hf
        · exact hk_33 hf
        · exact hk_34 hf
        · exact hk_35 hf
      · rcases hb with rfl | rfl | rfl | rfl | rfl
        · exact hk_41 hf
        · exact hk_42 hf
        · exact hk_43 hf
        · exact hk_44 hf
        · exact hk_45 hf
      · rcases hb with rfl | rfl | rfl | rfl | rfl
        · exact hk_51 hf
        · exact hk_52 hf
        · exact hk_53 hf
        · exact hk_54 hf
        · exact hk_55 hf
      · rcases hb with rfl | rfl | rfl | rfl | rfl
        · exact hk_61 hf
        · exact hk_62 hf
        · exact hk_63 hf
        · exact hk_64 hf
        · exact hk_65 hf
    · exact hk_56 hf
  exact List.all_eq_true.mp key g (List.mem_range.mpr hg)
end My
set_option Elab.async false
set_option linter.all false
set_option maxRecDepth 100000
set_option maxHeartbeats 4000000
set_option autoImplicit false
noncomputable section
namespace My
open PySem PySem.Spec L2 DL
open PyProof.Rows hiding St
/-! ### the law's walk to the first that is met -/
theorem bev_eq {a b f g : Nat} {p : Pl} {e : Nat} (ha : 1 ≤ a) (hb : 1 ≤ b) (he : e < 4) : F__law_behind_event [ePl p, .int e, .int a, .int b, .int f, .int g] = .ok (.sh (ePl (bev a b f g p e))) := by
  have a0 : 0 < a := by omega
  have b0 : 0 < b := by omega
  cases p with
  | none => simp [F__law_behind_event, B__law_behind_event, ePl, bev]
  | some x =>
    obtain ⟨i, j⟩ := x
    have nn : ∀ x y : Int, isND (.tup [.int x, .int y]) .non = some (.sh (.bl false)) := fun _ _ => rfl
    have h : e = 0 ∨ e = 1 ∨ e = 2 ∨ e = 3 := by omega
    rcases h with rfl | rfl | rfl | rfl
    · simp [F__law_behind_event, B__law_behind_event, ePl, bev, nn, a0]
    · simp [F__law_behind_event, B__law_behind_event, ePl, bev, nn, b0]
    · simp [F__law_behind_event, B__law_behind_event, ePl, bev, nn]
    · by_cases h1 : i = f
      · simp [F__law_behind_event, B__law_behind_event, ePl, bev, nn, h1]
      · have h1' : ¬ (i : Int) = f := by omega
        by_cases h2 : j = g
        · simp [F__law_behind_event, B__law_behind_event, ePl, bev, nn, h1, h1', h2]
        · have h2' : ¬ (j : Int) = g := by omega
          simp [F__law_behind_event, B__law_behind_event, ePl, bev, nn, h1, h1', h2, h2']
theorem eq_pl {p : Pl} {f g : Nat} : eqD (ePl p) (.tup [.int f, .int g]) = some (.sh (.bl (decide (p = some (f, g))))) := by
  have h : eqD (ePl p) (ePl (some (f, g))) = some (.sh (.bl (decide (p = some (f, g))))) := by
    rw [o_eqD ePl_ok ePl_ok]
    congr 4
    exact propext ⟨fun q => ePl_inj q, fun q => by rw [q]⟩
  exact h
theorem lmet_row {a b f g : Nat} (ha : 1 ≤ a) (hb : 1 ≤ b) {here : Nat} : ∀ (evs : List Nat) (ps : List Pl) (ws : List (List Int)) (j7 j8 : DL.Slot), (∀ e ∈ evs, e < 4) → LI ps ws → here < ps.length → ps.length + evs.length ≤ 500 →
    match lme a b f g here evs ps ws with
    | .go ps' ws' => (∃ j7' j8', forL 7 L__law_first_met_2 (evs.map fun e => D.int (0 + (e : Nat))) [.sh (.int a), .sh (.int b), .sh (.int f), .sh (.int g), .ow (ps.map ePl), .ow (ws.map eT), .sh (.int here), j7, j8] =
        .ok .nx [.sh (.int a), .sh (.int b), .sh (.int f), .sh (.int g), .ow (ps'.map ePl), .ow (ws'.map eT), .sh (.int here), j7', j8']) ∧ LI ps' ws' ∧ ps.length ≤ ps'.length ∧ ps'.length ≤ ps.length + evs.length
    | .met w => ∃ e', forL 7 L__law_first_met_2 (evs.map fun e => D.int (0 + (e : Nat))) [.sh (.int a), .sh (.int b), .sh (.int f), .sh (.int g), .ow (ps.map ePl), .ow (ws.map eT), .sh (.int here), j7, j8] = .ok (.rt (.sh (eT w))) e'
    | .full => ∃ e', forL 7 L__law_first_met_2 (evs.map fun e => D.int (0 + (e : Nat))) [.sh (.int a), .sh (.int b), .sh (.int f), .sh (.int g), .ow (ps.map ePl), .ow (ws.map eT), .sh (.int here), j7, j8] = .ok (.rt (.sh .non)) e'
  | [], ps, ws, j7, j8, h4, I, hh, hp => ⟨⟨j7, j8, rfl⟩, I, Nat.le_refl _, Nat.le_refl _⟩
  | e :: r, ps, ws, j7, j8, h4, I, hh, hp => by
    have he := h4 e (List.mem_cons_self ..)
    have hr4 : ∀ x ∈ r, x < 4 := fun x hx => h4 x (List.mem_cons_of_mem _ hx)
    have wl := I.wl
    simp only [List.length_cons] at hp
    obtain ⟨p, hpd⟩ : ∃ p, p = ps.getD here none := ⟨_, rfl⟩
    obtain ⟨w, hwd⟩ : ∃ w, w = ws.getD here [] := ⟨_, rfl⟩
    have at1 : atI (ps.map ePl) (here : Int) = some (ePl p) := by
      rw [atI_map, DL.atI_nat, List.getElem?_eq_getElem hh, hpd, List.getD_eq_getElem?_getD, List.getElem?_eq_getElem hh]; rfl
    have hhw : here < ws.length := by omega
    have at2 : atI (ws.map eT) (here : Int) = some (eT w) := by
      rw [atI_map, DL.atI_nat, List.getElem?_eq_getElem hhw, hwd, List.getD_eq_getElem?_getD, List.getElem?_eq_getElem hhw]; rfl
    have wm : w ∈ ws := by rw [hwd, List.getD_eq_getElem?_getD, List.getElem?_eq_getElem hhw]; exact List.getElem_mem hhw
    have wlen := I.ww w wm
    have ad := add_way (w := w) (ev := (e : Int)) (by omega)
    have go := bev_eq (a := a) (b := b) (f := f) (g := g) (p := p) ha hb he
    have eq := eq_pl (p := p) (f := f) (g := g)
    obtain ⟨q, hq⟩ : ∃ q, q = bev a b f g p e := ⟨_, rfl⟩
    rw [← hq] at go
    have ni := nin_pl (q := q) (ps := ps)
    have z0 : (ps.map ePl).length = ps.length := by simp
    have z1 : (ps.map ePl).length < 100000 := by simp; have := I.pl; omega
    have z2 : (ws.map eT).length < 100000 := by simp; have := I.pl; omega
    by_cases hx : e = 3 ∧ p = some (f, g)
    · have e1 : lme a b f g here (e :: r) ps ws = .met (w ++ [(e : Int)]) := by
        unfold lme
        rw [← hpd, ← hwd, if_pos hx]
      rw [e1]
      have body : L__law_first_met_2 [.sh (.int a), .sh (.int b), .sh (.int f), .sh (.int g), .ow (ps.map ePl), .ow (ws.map eT), .sh (.int here), .sh (.int e), j8] = .ok (.rt (.sh (eT (w ++ [(e : Int)])))) [.sh (.int a), .sh (.int b), .sh (.int f), .sh (.int g), .ow (ps.map ePl), .ow (ws.map eT), .sh (.int here), .sh (.int e), j8] := by
        obtain ⟨rfl, h2⟩ := hx
        have eq : eqD (ePl p) (.tup [.int f, .int g]) = some (.sh (.bl true)) := by rw [eq]; simp [h2]
        generalize ps.map ePl = K1 at *
        generalize ws.map eT = K2 at *
        have ad : addD (eT w) (.tup [.int 3]) = some (.sh (eT (w ++ [3]))) := ad
        simp [L__law_first_met_2, at1, at2, eq, ad]
      have body : ∃ e', L__law_first_met_2 [.sh (.int a), .sh (.int b), .sh (.int f), .sh (.int g), .ow (ps.map ePl), .ow (ws.map eT), .sh (.int here), .sh (.int e), j8] = .ok (.rt (.sh (eT (w ++ [(e : Int)])))) e' := ⟨_, body⟩
      obtain ⟨e', body⟩ := body
      refine ⟨e', ?_⟩
      rw [List.map_cons]
      simp only [forL, List.set_cons_succ, List.set_cons_zero, Int.zero_add]
      rw [body]
    · have ex : (e = 3 → ¬ p = some (f, g)) := fun h1 h2 => hx ⟨h1, h2⟩
      have ex' : ((e : Int) = 3 → eqD (ePl p) (.tup [.int f, .int g]) = some (.sh (.bl false))) := by
        intro h1
        rw [eq]
        have := ex (by omega)
        simp [this]
      by_cases hm : q ∈ ps
      · have e1 : lme a b f g here (e :: r) ps ws = lme a b f g here r ps ws := by
          conv => lhs; unfold lme
          rw [← hpd, if_neg hx, ← hq, if_pos hm]
        have body : ∃ k8, L__law_first_met_2 [.sh (.int a), .sh (.int b), .sh (.int f), .sh (.int g), .ow (ps.map ePl), .ow (ws.map eT), .sh (.int here), .sh (.int e), j8] = .ok .nx [.sh (.int a), .sh (.int b), .sh (.int f), .sh (.int g), .ow (ps.map ePl), .ow (ws.map eT), .sh (.int here), .sh (.int e), k8] := by
          refine ⟨.sh (ePl q), ?_⟩
          simp only [hm, decide_true, Bool.not_true] at ni
          generalize ps.map ePl = K1 at *
          generalize ws.map eT = K2 at *
          by_cases h3 : (e : Int) = 3
          · have ex' := ex' h3
            simp [L__law_first_met_2, at1, ex', go, ni, h3]
            simp [h3] at go
            simp [go, ni]
          · simp [L__law_first_met_2, at1, go, ni, h3]
        obtain ⟨k8, body⟩ := body
        have t := lmet_row ha hb (f := f) (g := g) (here := here) r ps ws (.sh (.int e)) k8 hr4 I hh (by omega)
        rw [e1, List.map_cons]
        simp only [forL, List.set_cons_succ, List.set_cons_zero, Int.zero_add]
        rw [body]
        simp only [Int.zero_add] at t
        split <;> rename_i hc <;> rw [hc] at t
        · obtain ⟨t1, t2, t3, t4⟩ := t
          exact ⟨t1, t2, t3, by simp only [List.length_cons]; omega⟩
        · exact t
        · exact t
      · by_cases h30 : ps.length = 30
        · have e1 : lme a b f g here (e :: r) ps ws = .full := by
            unfold lme
            rw [← hpd, if_neg hx, ← hq, if_neg hm, if_pos h30]
          rw [e1]
          have body : ∃ e', L__law_first_met_2 [.sh (.int a), .sh (.int b), .sh (.int f), .sh (.int g), .ow (ps.map ePl), .ow (ws.map eT), .sh (.int here), .sh (.int e), j8] = .ok (.rt (.sh .non)) e' := by
            refine ⟨[.sh (.int a), .sh (.int b), .sh (.int f), .sh (.int g), .ow (ps.map ePl), .ow (ws.map eT), .sh (.int here), .sh (.int e), .sh (ePl q)], ?_⟩
            simp only [hm, decide_false, Bool.not_false] at ni
            have z0 : ((ps.map ePl).length : Int) = 30 := by simp [h30]
            generalize ps.map ePl = K1 at *
            generalize ws.map eT = K2 at *
            by_cases h3 : (e : Int) = 3
            · have ex' := ex' h3
              rw [h3] at go
              simp [L__law_first_met_2, at1, ex', go, ni, h3, z0]
            · simp [L__law_first_met_2, at1, go, ni, h3, z0]
          obtain ⟨e', body⟩ := body
          refine ⟨e', ?_⟩
          rw [List.map_cons]
          simp only [forL, List.set_cons_succ, List.set_cons_zero, Int.zero_add]
          rw [body]
        · have e1 : lme a b f g here (e :: r) ps ws = lme a b f g here r (ps ++ [q]) (ws ++ [w ++ [(e : Int)]]) := by
            conv => lhs; unfold lme
            rw [← hpd, if_neg hx, ← hq, ← hwd, if_neg hm, if_neg h30]
          have I' : LI (ps ++ [q]) (ws ++ [w ++ [(e : Int)]]) := by
            refine ⟨by simp [wl], fun x hx => ?_, by simp; omega⟩
            rw [List.length_append, List.length_singleton]
            rcases List.mem_append.mp hx with hx | hx
            · have := I.ww x hx; omega
            · simp only [List.mem_singleton] at hx
              rw [hx, List.length_append, List.length_singleton]; omega
          have body : ∃ k8, L__law_first_met_2 [.sh (.int a), .sh (.int b), .sh (.int f), .sh (.int g), .ow (ps.map ePl), .ow (ws.map eT), .sh (.int here), .sh (.int e), j8] = .ok .nx [.sh (.int a), .sh (.int b), .sh (.int f), .sh (.int g), .ow ((ps ++ [q]).map ePl), .ow ((ws ++ [w ++ [(e : Int)]]).map eT), .sh (.int here), .sh (.int e), k8] := by
            refine ⟨.sh (ePl q), ?_⟩
            simp only [List.map_append, List.map_cons, List.map_nil]
            simp only [hm, decide_false, Bool.not_false] at ni
            have z0 : ¬ (((ps.map ePl).length : Int) = 30) := by simp; omega
            generalize ps.map ePl = K1 at *
            generalize ws.map eT = K2 at *
            by_cases h3 : (e : Int) = 3
            · have ex' := ex' h3
              rw [h3] at go ad
              simp [L__law_first_met_2, at1, at2, ex', go, ni, h3, z0, ad, z1, z2]
            · simp [L__law_first_met_2, at1, at2, go, ni, h3, z0, ad, z1, z2]
          obtain ⟨k8, body⟩ := body
          have t := lmet_row ha hb (f := f) (g := g) (here := here) r (ps ++ [q]) (ws ++ [w ++ [(e : Int)]]) (.sh (.int e)) k8 hr4 I' (by simp; omega) (by simp; omega)
          rw [e1, List.map_cons]
          simp only [forL, List.set_cons_succ, List.set_cons_zero, Int.zero_add]
          rw [body]
          simp only [Int.zero_add, List.length_append, List.length_singleton] at t
          split <;> rename_i hc <;> rw [hc] at t
          · obtain ⟨t1, t2, t3, t4⟩ := t
            exact ⟨t1, t2, by omega, by simp only [List.length_cons]; omega⟩
          · exact t
          · exact t
end My
set_option Elab.async false
set_option linter.all false
set_option maxRecDepth 100000
set_option maxHeartbeats 4000000
set_option autoImplicit false
noncomputable section
namespace My
open PySem PySem.Spec L2 DL
open PyProof.Rows hiding St
def eMt : Option (List Int) → D
  | none => .non
  | some w => eT w
theorem lmet_while {a b f g : Nat} (ha : 1 ≤ a) (hb : 1 ≤ b) : ∀ (n fuel here : Nat) (ps : List Pl) (ws : List (List Int)) (j7 j8 : DL.Slot) {m : Option (List Int)}, LI ps ws → n ≤ fuel → ps.length + 4 * n ≤ 400 → here + n ≤ 100 → lmw a b f g n here ps ws = some m →
    (∃ e', whileN (asB (op2 ltD (v 6) (callB lenD [(v 4)]))) L__law_first_met_1 fuel [.sh (.int a), .sh (.int b), .sh (.int f), .sh (.int g), .ow (ps.map ePl), .ow (ws.map eT), .sh (.int here), j7, j8] = .ok (.rt (.sh (eMt m))) e') ∨
    (m = none ∧ ∃ e', whileN (asB (op2 ltD (v 6) (callB lenD [(v 4)]))) L__law_first_met_1 fuel [.sh (.int a), .sh (.int b), .sh (.int f), .sh (.int g), .ow (ps.map ePl), .ow (ws.map eT), .sh (.int here), j7, j8] = .ok .nx e')
  | 0, _, _, _, _, _, _, _, _, _, _, _, h => by cases h
  | n + 1, fuel, here, ps, ws, j7, j8, mm, I, hf, hl, hh, h => by
    obtain ⟨k, rfl⟩ : ∃ m, fuel = m + 1 := ⟨fuel - 1, by omega⟩
    have tst : asB (op2 ltD (v 6) (callB lenD [(v 4)])) [.sh (.int a), .sh (.int b), .sh (.int f), .sh (.int g), .ow (ps.map ePl), .ow (ws.map eT), .sh (.int here), j7, j8] = .ok (decide (here < ps.length)) [.sh (.int a), .sh (.int b), .sh (.int f), .sh (.int g), .ow (ps.map ePl), .ow (ws.map eT), .sh (.int here), j7, j8] := by
      simp
    simp only [whileN, e_bnd, tst]
    unfold lmw at h
    by_cases c : here < ps.length
    · rw [if_pos c] at h
      simp only [decide_eq_true c, if_true]
      have t := lmet_row ha hb (f := f) (g := g) (here := here) [0, 1, 2, 3] ps ws j7 j8 (fun e he => by simp at he; omega) I c (by simp; omega)
      rw [← rng4N] at t
      cases hL : lme a b f g here [0, 1, 2, 3] ps ws with
      | full =>
        rw [hL] at h t
        cases h
        obtain ⟨e', t⟩ := t
        have body : L__law_first_met_1 [.sh (.int a), .sh (.int b), .sh (.int f), .sh (.int g), .ow (ps.map ePl), .ow (ws.map eT), .sh (.int here), j7, j8] = .ok (.rt (.sh .non)) e' := by
          generalize ps.map ePl = K1 at *
          generalize ws.map eT = K2 at *
          simp [L__law_first_met_1, t]
        rw [body]
        exact .inl ⟨_, rfl⟩
      | met w =>
        rw [hL] at h t
        cases h
        obtain ⟨e', t⟩ := t
        have body : L__law_first_met_1 [.sh (.int a), .sh (.int b), .sh (.int f), .sh (.int g), .ow (ps.map ePl), .ow (ws.map eT), .sh (.int here), j7, j8] = .ok (.rt (.sh (eT w))) e' := by
          generalize ps.map ePl = K1 at *
          generalize ws.map eT = K2 at *
          simp [L__law_first_met_1, t]
        rw [body]
        exact .inl ⟨_, rfl⟩
      | go ps' ws' =>
        rw [hL] at h t
        obtain ⟨⟨j7', j8', t1⟩, t2, t3, t4⟩ := t
        simp only [List.length_cons, List.length_nil] at t4
        have body : L__law_first_met_1 [.sh (.int a), .sh (.int b), .sh (.int f), .sh (.int g), .ow (ps.map ePl), .ow (ws.map eT), .sh (.int here), j7, j8] = .ok .nx [.sh (.int a), .sh (.int b), .sh (.int f), .sh (.int g), .ow (ps'.map ePl), .ow (ws'.map eT), .sh (.int (here + 1 : Nat)), j7', j8'] := by
          have nh : Near (here : Int) := near_nat (by omega)
          have e : ((here + 1 : Nat) : Int) = (here : Int) + 1 := by omega
          rw [e]
          generalize ps.map ePl = K1 at *
          generalize ws.map eT = K2 at *
          generalize ps'.map ePl = K3 at *
          generalize ws'.map eT = K4 at *
          simp [L__law_first_met_1, t1, nh]
        rw [body]
        exact lmet_while ha hb n k (here + 1) _ _ _ _ t2 (by omega) (by omega) (by omega) h
    · rw [if_neg c] at h
      cases h
      simp only [decide_eq_false c]
      exact .inr ⟨by trivial, _, rfl⟩
theorem lmet_eq {a b f g : Nat} (ha : 1 ≤ a) (hb : 1 ≤ b) {m : Option (List Int)} (h : fmw a b f g = some m) : F__law_first_met [.int a, .int b, .int f, .int g] = .ok (.sh (eMt m)) := by
  have w0 : whileS (asB (op2 ltD (v 6) (callB lenD [(v 4)]))) L__law_first_met_1 = whileN (asB (op2 ltD (v 6) (callB lenD [(v 4)]))) L__law_first_met_1 1000000 := rfl
  have q := lmet_while ha hb 40 1000000 0 [some (0, 0)] [[]] .un .un ⟨rfl, by simp, by simp⟩ (by omega) (by simp) (by omega) h
  simp only [List.map_cons, List.map_nil, ePl, eT, Int.natCast_zero] at q
  rcases q with ⟨e', q⟩ | ⟨rfl, e', q⟩
  · generalize eMt m = K at *
    simp [F__law_first_met, B__law_first_met, w0, q]
  · simp [F__law_first_met, B__law_first_met, w0, q, eMt]
theorem ltwo_eq {a b f g : Nat} (a1 : 1 ≤ a) (a6 : a ≤ 6) (b1 : 1 ≤ b) (b6 : b ≤ 6) (hf : f < a) (hg : g < b) : F__law_two_halls [.int a, .int b, .int f, .int g] = .ok (.sh (.tup [.lst ((hlR a b "one" "one" true).map eR), .lst ((hcA a b f g).map eA)])) := by
  have a0 : 0 < a := by omega
  have b0 : 0 < b := by omega
  have na : Near (a : Int) := near_nat (by omega)
  have nb : Near (b : Int) := near_nat (by omega)
  have cp : ∀ (n : Nat) (h : Int) (e : List DL.Slot), n ≤ 6 → e[5]? = some .un → compL 5 yesT (tupE [kc (.int h), kc (.str "plain")]) (rngD 0 n) [] e = .ok (((List.range n).map fun _ => ((h, ("plain" : Str)) : Rm)).map eR) e := by
    intro n h e hn h9
    obtain ⟨hl, _⟩ := List.getElem?_eq_some_iff.mp h9
    have := comp_all (ix := 5) (f := tupE [kc (.int h), kc (.str "plain")]) (e := e) (g := fun k : Nat => D.int (0 + (k : Nat))) (g' := eR) (w := fun _ => ((h, ("plain" : Str)) : Rm)) (xs := List.range n) (by simp; omega) (fun k _ => ⟨.sh (eR (h, "plain")), by simp [hl, eR], rfl⟩) h9
    rw [rng_map]; exact this
  obtain ⟨A1, hA1⟩ : ∃ A1 : List Ar, A1 = (List.range a).map fun k => (⟨4 + k, 0, -1, 4 + (k + 1) % a, k⟩ : Ar) := ⟨_, rfl⟩
  obtain ⟨A2, hA2⟩ : ∃ A2 : List Ar, A2 = (List.range b).map fun k => (⟨4 + a + k, 1, -1, 4 + a + (k + 1) % b, 50 + k⟩ : Ar) := ⟨_, rfl⟩
  have c1 : ∀ (e : List DL.Slot), e[5]? = some .un → e[0]? = some (.sh (.int a)) → compL 5 yesT (tupE [(op2 addD (kc (.int 4)) (v 5)), (kc (.int 0)), (kc (.int (-1))), (op2 addD (kc (.int 4)) (op2 modD (op2 addD (v 5) (kc (.int 1))) (v 0))), (v 5)]) (rngD 0 a) [] e = .ok (A1.map eA) e := by
    intro e h9 h4
    obtain ⟨hl, _⟩ := List.getElem?_eq_some_iff.mp h9
    have := comp_all (ix := 5) (f := tupE [(op2 addD (kc (.int 4)) (v 5)), (kc (.int 0)), (kc (.int (-1))), (op2 addD (kc (.int 4)) (op2 modD (op2 addD (v 5) (kc (.int 1))) (v 0))), (v 5)]) (e := e) (g := fun k : Nat => D.int (0 + (k : Nat))) (g' := eA) (w := fun k => (⟨4 + k, 0, -1, 4 + (k + 1) % a, k⟩ : Ar)) (xs := List.range a) (by simp; omega)
      (fun k hk => ⟨.sh (eA ⟨4 + k, 0, -1, 4 + (k + 1) % a, k⟩), by
        simp [hl, h4, a0, eA], rfl⟩) h9
    rw [rng_map, hA1]; exact this
  have c2 : ∀ (e : List DL.Slot), e[5]? = some .un → e[1]? = some (.sh (.int b)) → e[7]? = some (.sh (.int (4 + (a : Int)))) → compL 5 yesT (tupE [(op2 addD (v 7) (v 5)), (kc (.int 1)), (kc (.int (-1))), (op2 addD (v 7) (op2 modD (op2 addD (v 5) (kc (.int 1))) (v 1))), (op2 addD (kc (.int 50)) (v 5))]) (rngD 0 b) [] e = .ok (A2.map eA) e := by
    intro e h9 h5 h6
    obtain ⟨hl, _⟩ := List.getElem?_eq_some_iff.mp h9
    have := comp_all (ix := 5) (f := tupE [(op2 addD (v 7) (v 5)), (kc (.int 1)), (kc (.int (-1))), (op2 addD (v 7) (op2 modD (op2 addD (v 5) (kc (.int 1))) (v 1))), (op2 addD (kc (.int 50)) (v 5))]) (e := e) (g := fun k : Nat => D.int (0 + (k : Nat))) (g' := eA) (w := fun k => (⟨4 + a + k, 1, -1, 4 + a + (k + 1) % b, 50 + k⟩ : Ar)) (xs := List.range b) (by simp; omega)
      (fun k hk => ⟨.sh (eA ⟨4 + a + k, 1, -1, 4 + a + (k + 1) % b, 50 + k⟩), by
        simp [hl, h5, h6, b0, eA], rfl⟩) h9
    rw [rng_map, hA2]; exact this
  have ad : ∀ xs ys : List D, xs.length ≤ 100 → ys.length ≤ 100 → addD (.lst xs) (.lst ys) = some (.fr (xs ++ ys)) := fun xs ys h1 h2 => if_pos (show xs.length + ys.length ≤ 100000 by omega)
  have l1 : A1.length ≤ 6 := by rw [hA1]; simp; omega
  have l2 : A2.length ≤ 6 := by rw [hA2]; simp; omega
  have hcu : hlA a b false = A1 ++ A2 := by unfold hlA; rw [hA1, hA2]; simp
  have eRR : (hlR a b "one" "one" true).map eR = ([D.tup [.int (-1), .str "one"], .tup [.int 0, .str "all"], .tup [.int 1, .str "one"], .tup [.int 1, .str "one"]] ++ ((List.range a).map fun _ => (((2 : Int), ("plain" : Str)) : Rm)).map eR ++ ((List.range b).map fun _ => (((3 : Int), ("plain" : Str)) : Rm)).map eR) ++ [.tup [.int 0, .str "plain"]] := by
    unfold hlR
    simp only [List.map_append, List.map_cons, List.map_nil, eR, if_true]
  have eAA : (hcA a b f g).map eA = A1.map eA ++ A2.map eA ++ [.tup [.int (4 + (f : Int)), .int 3, .int (-1), .int (4 + (a : Int) + (b : Int)), .int 98], .tup [.int (4 + (a : Int) + (g : Int)), .int 3, .int (-1), .int (4 + (a : Int) + (b : Int)), .int 99]] := by
    unfold hcA
    rw [hcu]
    simp [eA]
  rw [eRR, eAA]
  obtain ⟨R1, hR1⟩ : ∃ R1, R1 = ((List.range a).map fun _ => (((2 : Int), ("plain" : Str)) : Rm)).map eR := ⟨_, rfl⟩
  obtain ⟨R2, hR2⟩ : ∃ R1, R1 = ((List.range b).map fun _ => (((3 : Int), ("plain" : Str)) : Rm)).map eR := ⟨_, rfl⟩
  have r1 : R1.length ≤ 6 := by rw [hR1]; simp; omega
  have r2 : R2.length ≤ 6 := by rw [hR2]; simp; omega
  have cp2 := cp a 2
  have cp3 := cp b 3
  rw [← hR1] at cp2 ⊢
  rw [← hR2] at cp3 ⊢
  have cp2 := fun e h => cp2 e a6 h
  have cp3 := fun e h => cp3 e b6 h
  obtain ⟨B1, hB1⟩ : ∃ B, B = A1.map eA := ⟨_, rfl⟩
  obtain ⟨B2, hB2⟩ : ∃ B, B = A2.map eA := ⟨_, rfl⟩
  have m1 : B1.length ≤ 6 := by rw [hB1]; simp; omega
  have m2 : B2.length ≤ 6 := by rw [hB2]; simp; omega
  rw [← hB1] at c1 ⊢
  rw [← hB2] at c2 ⊢
  have z0 : B1.length + B2.length < 100000 := by omega
  have z1 : R1.length + R2.length + 1 + 1 + 1 + 1 < 100000 := by omega
  have ad1 := ad [D.tup [.int (-1), .str "one"], .tup [.int 0, .str "all"], .tup [.int 1, .str "one"], .tup [.int 1, .str "one"]] R1 (by simp) (by omega)
  have ad2 := ad ([D.tup [.int (-1), .str "one"], .tup [.int 0, .str "all"], .tup [.int 1, .str "one"], .tup [.int 1, .str "one"]] ++ R1) R2 (by simp; omega) (by omega)
  have ad4 := ad B1 B2 (by omega) (by omega)
  have ad3 := ad ([D.tup [.int (-1), .str "one"], .tup [.int 0, .str "all"], .tup [.int 1, .str "one"], .tup [.int 1, .str "one"]] ++ R1 ++ R2) [.tup [.int 0, .str "plain"]] (by simp; omega) (by simp)
  have ad5 := ad (B1 ++ B2) [.tup [.int (4 + (f : Int)), .int 3, .int (-1), .int (4 + (a : Int) + (b : Int)), .int 98], .tup [.int (4 + (a : Int) + (g : Int)), .int 3, .int (-1), .int (4 + (a : Int) + (b : Int)), .int 99]] (by simp; omega) (by simp)
  simp only [List.cons_append, List.nil_append, List.append_assoc] at ad1 ad2 ad3 ad4 ad5
  have nf : Near (f : Int) := near_nat (by omega)
  have ng : Near (g : Int) := near_nat (by omega)
  simp [F__law_two_halls, B__law_two_halls, na, nb, nf, ng, cp2, cp3, c1, c2, ad1, ad2, ad3, ad4, ad5, z0, z1]
end My
set_option Elab.async false
set_option linter.all false
set_option maxRecDepth 100000
set_option maxHeartbeats 4000000
set_option autoImplicit false
noncomputable section
namespace My
open PySem PySem.Spec L2 DL
open PyProof.Rows hiding St
theorem lme_wl {a b f g here : Nat} : ∀ (evs : List Nat) (ps : List Pl) (ws : List (List Int)) (w : List Int), LI ps ws → here < ps.length → ps.length + evs.length ≤ 500 → lme a b f g here evs ps ws = .met w → w.length ≤ 1000
  | [], ps, ws, w, I, hh, hp, h => by cases h
  | e :: r, ps, ws, w, I, hh, hp, h => by
    have wl := I.wl
    have hhw : here < ws.length := by omega
    have wm : ws.getD here [] ∈ ws := by rw [List.getD_eq_getElem?_getD, List.getElem?_eq_getElem hhw]; exact List.getElem_mem hhw
    have wlen := I.ww _ wm
    simp only [List.length_cons] at hp
    unfold lme at h
    split at h
    · cases h
      rw [List.length_append, List.length_singleton]
      omega
    · split at h
      · exact lme_wl r ps ws w I hh (by omega) h
      · split at h
        · cases h
        · refine lme_wl r _ _ w ⟨by simp [wl], fun x hx => ?_, by simp; omega⟩ (by simp; omega) (by simp; omega) h
          rw [List.length_append, List.length_singleton]
          rcases List.mem_append.mp hx with hx | hx
          · have := I.ww x hx; omega
          · simp only [List.mem_singleton] at hx
            rw [hx, List.length_append, List.length_singleton]; omega
theorem lmw_wl {a b f g : Nat} (ha : 1 ≤ a) (hb : 1 ≤ b) : ∀ (n here : Nat) (ps : List Pl) (ws : List (List Int)) {w : List Int}, LI ps ws → ps.length + 4 * n ≤ 400 → here + n ≤ 100 → lmw a b f g n here ps ws = some (some w) → w.length ≤ 1000
  | 0, _, _, _, _, _, _, _, h => by cases h
  | n + 1, here, ps, ws, w, I, hl, hh, h => by
    unfold lmw at h
    by_cases c : here < ps.length
    · rw [if_pos c] at h
      have t := lmet_row ha hb (f := f) (g := g) (here := here) [0, 1, 2, 3] ps ws .un .un (fun e he => by simp at he; omega) I c (by simp; omega)
      cases hL : lme a b f g here [0, 1, 2, 3] ps ws with
      | full => rw [hL] at h; cases h
      | met w' =>
        have q := lme_wl [0, 1, 2, 3] ps ws w' I c (by simp; omega) hL
        rw [hL] at h
        cases h
        exact q
      | go ps' ws' =>
        rw [hL] at h t
        obtain ⟨_, t2, t3, t4⟩ := t
        simp only [List.length_cons, List.length_nil] at t4
        exact lmw_wl ha hb n (here + 1) _ _ t2 (by omega) (by omega) h
    · rw [if_neg c] at h
      cases h
theorem core20 {a b f g : Nat} (a1 : 1 ≤ a) (a6 : a ≤ 6) (b1 : 1 ≤ b) (b6 : b ≤ 6) (hf : f < a) (hg : g < b) (hB : hcB a b f g = true) : ∃ (RR AA : List D) (C : D),
    F__law_two_halls [.int a, .int b, .int f, .int g] = .ok (.sh (.tup [.lst RR, .lst AA])) ∧ F_Chart__init [.lst RR, .lst AA] = .ok (.sh C) ∧
    ((F_folded [C] = .ex "TooMany" none ∧ F__law_first_met [.int a, .int b, .int f, .int g] = .ok (.sh .non)) ∨
     (∃ w : List Int, F_folded [C] = .ex "Clash" (some [("second", .int ((a : Int) + b + 1)), ("first", .int ((a : Int) + b)), ("events", eT w)]) ∧ F__law_first_met [.int a, .int b, .int f, .int g] = .ok (.sh (eT w)) ∧ w.length ≤ 1000)) := by
  unfold hcB at hB
  rw [Bool.and_eq_true, Bool.and_eq_true] at hB
  obtain ⟨hW, hG, hF⟩ := hB
  have W := wf_of hW
  have hA : ∀ x ∈ hcA a b f g, GA (hlR a b "one" "one" true) x := fun x hx => by
    have := List.all_eq_true.mp hG x hx
    rw [Bool.and_eq_true, decide_eq_true_eq] at this
    exact ga_of this.1 this.2
  have hl : (hcA a b f g).length ≤ 20 := by unfold hcA hlA; simp; omega
  have fo := folded_eq W hA (by omega)
  refine ⟨_, _, _, ltwo_eq a1 a6 b1 b6 hf hg, chart_eq W hA hl, ?_⟩
  cases hf : fold0 (hlR a b "one" "one" true) (hcA a b f g) with
  | st => rw [hf] at hF; cases hF
  | ok zs ws' rows' => rw [hf] at hF; cases hF
  | many =>
    rw [hf] at hF fo
    dsimp only at hF
    rw [decide_eq_true_eq] at hF
    exact .inl ⟨fo, lmet_eq a1 b1 hF⟩
  | cl w x y =>
    rw [hf] at hF fo
    dsimp only at hF
    rw [decide_eq_true_eq] at hF
    obtain ⟨h1, h2, h3⟩ := hF
    subst h2 h3
    refine .inr ⟨w, ?_, lmet_eq a1 b1 h1, lmw_wl a1 b1 40 0 _ _ ⟨rfl, by simp, by simp⟩ (by simp) (by omega) h1⟩
    rw [fo]
    simp
theorem F_law_true : ∀ ns : List Int, ns.length ≤ 63 → F_law [.scr ns] = .ok (.sh (.bl true)) := by
  intro ns hns
  have c0 : F__law_cell_at [.scr ns, .int 0] = .ok (.sh (.int (cl ns 0))) := cell_eq (by omega)
  have c1 : F__law_cell_at [.scr ns, .int 1] = .ok (.sh (.int (cl ns 1))) := cell_eq (by omega)
  have c2 : F__law_cell_at [.scr ns, .int 2] = .ok (.sh (.int (cl ns 2))) := cell_eq (by omega)
  have c3 : F__law_cell_at [.scr ns, .int 3] = .ok (.sh (.int (cl ns 3))) := cell_eq (by omega)
  have c4 : F__law_cell_at [.scr ns, .int 4] = .ok (.sh (.int (cl ns 4))) := cell_eq (by omega)
  obtain ⟨a, b, a1, a6, b1, hb, ha', hb'⟩ : ∃ a b : Nat, 1 ≤ a ∧ a ≤ 6 ∧ 1 ≤ b ∧ (b ≤ 5 ∨ (a = 5 ∧ b = 6)) ∧ (if cl ns 2 % 2 = 1 then 5 + cl ns 0 % 2 else 1 + cl ns 0 % 6) = a ∧ (if cl ns 2 % 2 = 1 then 11 - (5 + cl ns 0 % 2) else 1 + cl ns 1 % 5) = b := by
    by_cases h : cl ns 2 % 2 = 1
    · refine ⟨(5 + cl ns 0 % 2).toNat, (11 - (5 + cl ns 0 % 2)).toNat, ?_⟩
      simp only [if_pos h]
      omega
    · refine ⟨(1 + cl ns 0 % 6).toNat, (1 + cl ns 1 % 5).toNat, ?_⟩
      simp only [if_neg h]
      omega
  have b6 : b ≤ 6 := by omega
  obtain ⟨f, hf, hf'⟩ : ∃ f : Nat, f < a ∧ cl ns 3 % (a : Int) = f := by
    have h1 := Int.emod_nonneg (cl ns 3) (b := (a : Int)) (by omega)
    have h2 := Int.emod_lt_of_pos (cl ns 3) (b := (a : Int)) (by omega)
    exact ⟨(cl ns 3 % (a : Int)).toNat, by omega, by omega⟩
  obtain ⟨g, hg, hg'⟩ : ∃ g : Nat, g < b ∧ cl ns 4 % (b : Int) = g := by
    have h1 := Int.emod_nonneg (cl ns 4) (b := (b : Int)) (by omega)
    have h2 := Int.emod_lt_of_pos (cl ns 4) (b := (b : Int)) (by omega)
    exact ⟨(cl ns 4 % (b : Int)).toNat, by omega, by omega⟩
  obtain ⟨RR, AA, C, f1, f2, f3⟩ := core20 a1 a6 b1 b6 hf hg (hc_ok a1 a6 b1 hb hf hg)
  have na : Near (a : Int) := near_nat (by omega)
  have nb : Near (b : Int) := near_nat (by omega)
  have a0 : 0 < a := by omega
  have b0 : 0 < b := by omega
  have nab : Near ((a : Int) + b) := near_nat (n := a + b) (by omega)
  have r2 : F__law_row [.tup [.int ((a : Int) + b), .int ((a : Int) + b + 1)], .tup [.int ((a : Int) + b), .int ((a : Int) + b + 1)]] = .ok (.sh (.bl true)) := row_eq (ds := [(a : Int) + b, (a : Int) + b + 1]) (by simp)
  rcases f3 with ⟨g1, g2⟩ | ⟨w, g1, g2, wl⟩
  · by_cases h : cl ns 2 % 2 = 1
    · rw [if_pos h] at ha' hb'
      rw [ha'] at hb'
      simp [F_law, B_law, c0, c1, c2, c3, c4, h, ha', hb', hf', hg', f1, f2, g1, g2, a0, b0, na, nb]
    · rw [if_neg h] at ha' hb'
      simp [F_law, B_law, c0, c1, c2, c3, c4, h, ha', hb', hf', hg', f1, f2, g1, g2, a0, b0, na, nb]
  · have r1 : F__law_row [eT w, eT w] = .ok (.sh (.bl true)) := row_eq (ds := w) (by omega)
    have isn : isND (eT w) .non = some (.sh (.bl false)) := rfl
    have isn2 : ∀ x y : D, isND (.tup [x, y]) .non = some (.sh (.bl false)) := fun _ _ => rfl
    by_cases h : cl ns 2 % 2 = 1
    · rw [if_pos h] at ha' hb'
      rw [ha'] at hb'
      simp [F_law, B_law, c0, c1, c2, c3, c4, h, ha', hb', hf', hg', f1, f2, g1, g2, a0, b0, na, nb, nab, r1, r2, isn, isn2]
    · rw [if_neg h] at ha' hb'
      simp [F_law, B_law, c0, c1, c2, c3, c4, h, ha', hb', hf', hg', f1, f2, g1, g2, a0, b0, na, nb, nab, r1, r2, isn, isn2]
end My
set_option Elab.async false
set_option linter.all false
set_option maxRecDepth 100000
set_option maxHeartbeats 4000000
set_option autoImplicit false
noncomputable section
namespace My
open PySem PySem.Spec L2 DL
open PyProof.Rows hiding St
def top (i : Nat) : Stmt := PySem.Challenge.pw_chartfold_k20_which_refusal.main.body.getD i (.Pass ⟨0, 0, 0, 0⟩)
def d15 : He.DefD := ⟨("within", none), "within", "within", defArgs (top 15), defBody (top 15), defScope (top 15), [], []⟩
def d16 : He.DefD := ⟨("scope", none), "scope", "scope", defArgs (top 16), defBody (top 16), defScope (top 16), [], []⟩
def d13 : He.DefD := ⟨("look_at_arrows", none), "look_at_arrows", "look_at_arrows", defArgs (top 13), defBody (top 13), defScope (top 13), [], []⟩
def d12 : He.DefD := ⟨("look_at_rooms", none), "look_at_rooms", "look_at_rooms", defArgs (top 12), defBody (top 12), defScope (top 12), [], []⟩
def d11_i : He.DefD := ⟨("Chart", some "__init__"), "__init__", "Chart.__init__", defArgs (inClass (top 11) 0), defBody (inClass (top 11) 0), defScope (inClass (top 11) 0), [], []⟩
def d32 : He.DefD := ⟨("_law_cell_at", none), "_law_cell_at", "_law_cell_at", defArgs (top 32), defBody (top 32), defScope (top 32), [], []⟩
def d35 : He.DefD := ⟨("_law_behind_event", none), "_law_behind_event", "_law_behind_event", defArgs (top 35), defBody (top 35), defScope (top 35), [], []⟩
def d36 : He.DefD := ⟨("_law_first_met", none), "_law_first_met", "_law_first_met", defArgs (top 36), defBody (top 36), defScope (top 36), [], []⟩
def d33 : He.DefD := ⟨("_law_row", none), "_law_row", "_law_row", defArgs (top 33), defBody (top 33), defScope (top 33), [], []⟩
def d34 : He.DefD := ⟨("_law_two_halls", none), "_law_two_halls", "_law_two_halls", defArgs (top 34), defBody (top 34), defScope (top 34), [], []⟩
def d4_i : He.DefD := ⟨("Clash", some "__init__"), "__init__", "Clash.__init__", defArgs (inClass (top 4) 0), defBody (inClass (top 4) 0), defScope (inClass (top 4) 0), [], []⟩
def d29_i : He.DefD := ⟨("Flat", some "__init__"), "__init__", "Flat.__init__", defArgs (inClass (top 29) 0), defBody (inClass (top 29) 0), defScope (inClass (top 29) 0), [], []⟩
def d23 : He.DefD := ⟨("clash_of", none), "clash_of", "clash_of", defArgs (top 23), defBody (top 23), defScope (top 23), [], []⟩
def d14 : He.DefD := ⟨("children", none), "children", "children", defArgs (top 14), defBody (top 14), defScope (top 14), [], []⟩
def d18 : He.DefD := ⟨("chosen", none), "chosen", "chosen", defArgs (top 18), defBody (top 18), defScope (top 18), [], []⟩
def d19 : He.DefD := ⟨("entered", none), "entered", "entered", defArgs (top 19), defBody (top 19), defScope (top 19), [], []⟩
def d20 : He.DefD := ⟨("started", none), "started", "started", defArgs (top 20), defBody (top 20), defScope (top 20), [], []⟩
def d24 : He.DefD := ⟨("gone", none), "gone", "gone", defArgs (top 24), defBody (top 24), defScope (top 24), [], []⟩
def d25 : He.DefD := ⟨("remembered", none), "remembered", "remembered", defArgs (top 25), defBody (top 25), defScope (top 25), [], []⟩
def d21 : He.DefD := ⟨("opened", none), "opened", "opened", defArgs (top 21), defBody (top 21), defScope (top 21), [], []⟩
def d22 : He.DefD := ⟨("takeable", none), "takeable", "takeable", defArgs (top 22), defBody (top 22), defScope (top 22), [], []⟩
def d26 : He.DefD := ⟨("stepped", none), "stepped", "stepped", defArgs (top 26), defBody (top 26), defScope (top 26), [], []⟩
def d30 : He.DefD := ⟨("folded", none), "folded", "folded", defArgs (top 30), defBody (top 30), defScope (top 30), [], []⟩
def d37 : He.DefD := ⟨("law", none), "law", "law", defArgs (top 37), defBody (top 37), defScope (top 37), [], []⟩
def fn : List He.DefD := [d15, d16, d13, d12, d11_i, d32, d35, d36, d33, d34, d4_i, d29_i, d23, d14, d18, d19, d20, d24, d25, d21, d22, d26, d30, d37]
def fa : List He.Fa := ([.glo "within", .glo "scope", .glo "look_at_arrows", .glo "look_at_rooms", .glo "Chart", .glo "_law_cell_at", .glo "_law_behind_event", .glo "_law_first_met", .glo "_law_row", .glo "_law_two_halls", .glo "Clash", .glo "Flat", .glo "clash_of", .glo "children", .glo "chosen", .glo "entered", .glo "started", .glo "gone", .glo "remembered", .glo "opened"] : List He.Fa) ++ ([.glo "takeable", .glo "stepped", .glo "folded", .glo "law", .free "len", .free "range", .free "isinstance", .free "list", .free "tuple", .free "sorted", .free "int", .free "bool", .free "ValueError", .int "ROOMS" 16, .int "ARROWS" 20, .int "EVENTS" 4, .int "DEEDS" 100, .glo "KINDS", .int "STATES" 30, .glo "BadChart"] : List He.Fa) ++ ([.exc "BadChart", .glo "TooMany", .exc "TooMany", .cls "Chart", .mkr "Chart", .noat "Chart" "rooms", .noat "Chart" "arrows", .cls "Flat", .mkr "Flat", .noat "Flat" "states", .noat "Flat" "rows", .noat "Flat" "ways", .exm "BadChart" "Clash" false, .exm "TooMany" "Clash" false, .exm "Clash" "Clash" true, .exm "BadChart" "TooMany" false, .exm "TooMany" "TooMany" true, .exm "Clash" "TooMany" false, .noat "Clash" "events", .noat "Clash" "first"] : List He.Fa) ++ ([.noat "Clash" "second"] : List He.Fa)
def exB (K : PySem.W.Frag) : List Bool := [He.tupB K "KINDS" [.str "plain", .str "one", .str "all", .str "keep"], oexB K (He.ga K "Clash") (He.fAd K d4_i.at_), xfB K (He.ga K "Clash")]
/-! ### what the top has left -/
structure Fx (G : Gb) : Prop where
  m_within : G.mg "within" = some (.ref (He.fAd G.K d15.at_))
  h_within : Has G d15
  m_scope : G.mg "scope" = some (.ref (He.fAd G.K d16.at_))
  h_scope : Has G d16
  m_look_at_arrows : G.mg "look_at_arrows" = some (.ref (He.fAd G.K d13.at_))
  h_look_at_arrows : Has G d13
  m_look_at_rooms : G.mg "look_at_rooms" = some (.ref (He.fAd G.K d12.at_))
  h_look_at_rooms : Has G d12
  h_Chart__init : Has G d11_i
  m__law_cell_at : G.mg "_law_cell_at" = some (.ref (He.fAd G.K d32.at_))
  h__law_cell_at : Has G d32
  m__law_behind_event : G.mg "_law_behind_event" = some (.ref (He.fAd G.K d35.at_))
  h__law_behind_event : Has G d35
  m__law_first_met : G.mg "_law_first_met" = some (.ref (He.fAd G.K d36.at_))
  h__law_first_met : Has G d36
  m__law_row : G.mg "_law_row" = some (.ref (He.fAd G.K d33.at_))
  h__law_row : Has G d33
  m__law_two_halls : G.mg "_law_two_halls" = some (.ref (He.fAd G.K d34.at_))
  h__law_two_halls : Has G d34
  h_Clash__init : Has G d4_i
  h_Flat__init : Has G d29_i
  m_clash_of : G.mg "clash_of" = some (.ref (He.fAd G.K d23.at_))
  h_clash_of : Has G d23
  m_children : G.mg "children" = some (.ref (He.fAd G.K d14.at_))
  h_children : Has G d14
  m_chosen : G.mg "chosen" = some (.ref (He.fAd G.K d18.at_))
  h_chosen : Has G d18
  m_entered : G.mg "entered" = some (.ref (He.fAd G.K d19.at_))
  h_entered : Has G d19
  m_started : G.mg "started" = some (.ref (He.fAd G.K d20.at_))
  h_started : Has G d20
  m_gone : G.mg "gone" = some (.ref (He.fAd G.K d24.at_))
  h_gone : Has G d24
  m_remembered : G.mg "remembered" = some (.ref (He.fAd G.K d25.at_))
  h_remembered : Has G d25
  m_opened : G.mg "opened" = some (.ref (He.fAd G.K d21.at_))
  h_opened : Has G d21
  m_takeable : G.mg "takeable" = some (.ref (He.fAd G.K d22.at_))
  h_takeable : Has G d22
  m_stepped : G.mg "stepped" = some (.ref (He.fAd G.K d26.at_))
  h_stepped : Has G d26
  m_folded : G.mg "folded" = some (.ref (He.fAd G.K d30.at_))
  h_folded : Has G d30
  m_law : G.mg "law" = some (.ref (He.fAd G.K d37.at_))
  h_law : Has G d37
  f_len : G.mg "len" = none
  f_range : G.mg "range" = none
  f_isinstance : G.mg "isinstance" = none
  f_list : G.mg "list" = none
  f_tuple : G.mg "tuple" = none
  f_sorted : G.mg "sorted" = none
  f_int : G.mg "int" = none
  f_bool : G.mg "bool" = none
  f_ValueError : G.mg "ValueError" = none
  i_ROOMS : ∃ t, G.mg "ROOMS" = some (.int 16 t)
  i_ARROWS : ∃ t, G.mg "ARROWS" = some (.int 20 t)
  i_EVENTS : ∃ t, G.mg "EVENTS" = some (.int 4 t)
  i_DEEDS : ∃ t, G.mg "DEEDS" = some (.int 100 t)
  i_KINDS : ∃ a, G.mg "KINDS" = some (.ref a) ∧ ∀ F, SqT G.K F a [.str "plain", .str "one", .str "all", .str "keep"]
  i_STATES : ∃ t, G.mg "STATES" = some (.int 30 t)
  x_BadChart : ExI G "BadChart"
  x_TooMany : ExI G "TooMany"
  g_Chart : G.mg "Chart" = some (.ref (He.ga G.K "Chart"))
  c_Chart : ClsOk G "Chart" ["rooms", "arrows"]
  k_Chart : Mk G.K (He.ga G.K "Chart") (He.fAd G.K d11_i.at_)
  g_Flat : G.mg "Flat" = some (.ref (He.ga G.K "Flat"))
  c_Flat : ClsOk G "Flat" ["states", "rows", "ways"]
  k_Flat : Mk G.K (He.ga G.K "Flat") (He.fAd G.K d29_i.at_)
  n_Clash : Nm G "Clash"
  n_TooMany : Nm G "TooMany"
  x_Clash : ClI G
  xf_events : XfI G "events"
  xf_first : XfI G "first"
  xf_second : XfI G "second"
theorem Fx.ki_ROOMS {G : Gb} (T : Fx G) {c : Cp} {pos : Pos} (h : chkG c "ROOMS" = true) : DE G c (.Name "ROOMS" pos) (kc (.int 16)) := let ⟨t, e⟩ := T.i_ROOMS; de_gl (vv := .int 16) h e ⟨t, rfl⟩ fun F => .int 16
theorem Fx.ki_ARROWS {G : Gb} (T : Fx G) {c : Cp} {pos : Pos} (h : chkG c "ARROWS" = true) : DE G c (.Name "ARROWS" pos) (kc (.int 20)) := let ⟨t, e⟩ := T.i_ARROWS; de_gl (vv := .int 20) h e ⟨t, rfl⟩ fun F => .int 20
theorem Fx.ki_EVENTS {G : Gb} (T : Fx G) {c : Cp} {pos : Pos} (h : chkG c "EVENTS" = true) : DE G c (.Name "EVENTS" pos) (kc (.int 4)) := let ⟨t, e⟩ := T.i_EVENTS; de_gl (vv := .int 4) h e ⟨t, rfl⟩ fun F => .int 4
theorem Fx.ki_DEEDS {G : Gb} (T : Fx G) {c : Cp} {pos : Pos} (h : chkG c "DEEDS" = true) : DE G c (.Name "DEEDS" pos) (kc (.int 100)) := let ⟨t, e⟩ := T.i_DEEDS; de_gl (vv := .int 100) h e ⟨t, rfl⟩ fun F => .int 100
theorem Fx.kt_KINDS {G : Gb} (T : Fx G) {c : Cp} {pos : Pos} (h : chkG c "KINDS" = true) : DE G c (.Name "KINDS" pos) (kc (.tup [.str "plain", .str "one", .str "all", .str "keep"])) := let ⟨a, e, hT⟩ := T.i_KINDS; de_gl (vv := .ref a) h e rfl fun F => .tup (hT F) (RpL.strs ["plain", "one", "all", "keep"])
theorem Fx.ki_STATES {G : Gb} (T : Fx G) {c : Cp} {pos : Pos} (h : chkG c "STATES" = true) : DE G c (.Name "STATES" pos) (kc (.int 30)) := let ⟨t, e⟩ := T.i_STATES; de_gl (vv := .int 30) h e ⟨t, rfl⟩ fun F => .int 30
section
variable {G : Gb}
theorem sc_within : FnScope ["chart", "room", "other"] ["chart", "room", "other"] d15.scope := ⟨rfl, rfl, rfl, by decide +kernel, rfl, by decide +kernel, by decide +kernel⟩
theorem w_within (T : Fx G) : DSs G ⟨["chart", "room", "other"], d15.scope, 0, true, true, []⟩ d15.body B_within := by
  exact (dss_cons (ds_while (dt_cmp cr_gt (de_v (i := 1) (by decide +kernel)) (de_v (i := 2) (by decide +kernel)) rfl) (dss_one (ds_set (i := 1) (by decide +kernel) (de_ix (de_ix (de_fld T.c_Chart (by decide) (de_v (i := 0) (by decide +kernel)) rfl) (de_v (i := 1) (by decide +kernel)) rfl) de_int rfl) rfl))) (dss_one (ds_ret (de_cmp (cr_eq rfl) (de_v (i := 1) (by decide +kernel)) (de_v (i := 2) (by decide +kernel)) rfl))))
theorem fi_within (T : Fx G) : FnI G 1 "within" 3 F_within := fi_def T.h_within T.m_within sc_within rfl rfl (fun _ _ _ _ _ _ us hl => match us, hl with | [_, _, _], _ => rfl) (w_within T)
theorem sc_scope : FnScope ["chart", "source", "target", "found", "k"] ["chart", "source", "target"] d16.scope := ⟨rfl, rfl, rfl, by decide +kernel, rfl, by decide +kernel, by decide +kernel⟩
theorem w_scope (T : Fx G) : DSs G ⟨["chart", "source", "target", "found", "k"], d16.scope, 1, true, true, []⟩ d16.body B_scope := by
  have fi_within := fi_within T
  exact (dss_cons (ds_set (i := 3) (by decide +kernel) de_non rfl) (dss_cons (ds_for (ix := 4) (by decide +kernel) rfl (di_r1 (by decide +kernel) T.f_range (de_len (by decide +kernel) T.f_len (de_fld T.c_Chart (by decide) (de_v (i := 0) (by decide +kernel)) rfl) rfl) rfl) (dss_one (ds_if (dt_w (dw_and (dt_cmp (cr_in rfl) (de_ix (de_ix (de_fld T.c_Chart (by decide) (de_v (i := 0) (by decide +kernel)) rfl) (de_v (i := 4) (by decide +kernel)) rfl) de_int rfl) (de_tup (da_cons de_str (da_cons de_str da_nil rfl) rfl) (by decide)) rfl) (dw_and (dt_cmp (cr_ne rfl) (de_v (i := 4) (by decide +kernel)) (de_v (i := 1) (by decide +kernel)) rfl) (dw_and1 (dt_cmp (cr_ne rfl) (de_v (i := 4) (by decide +kernel)) (de_v (i := 2) (by decide +kernel)) rfl))))) (dss_one (ds_if (dt_w (dw_and (dt_val (de_call fi_within (by decide) rfl (by decide +kernel) (da_cons (de_v (i := 0) (by decide +kernel)) (da_cons (de_v (i := 1) (by decide +kernel)) (da_cons (de_v (i := 4) (by decide +kernel)) da_nil rfl) rfl) rfl) rfl rfl) rfl) (dw_and1 (dt_val (de_call fi_within (by decide) rfl (by decide +kernel) (da_cons (de_v (i := 0) (by decide +kernel)) (da_cons (de_v (i := 2) (by decide +kernel)) (da_cons (de_v (i := 4) (by decide +kernel)) da_nil rfl) rfl) rfl) rfl rfl) rfl)))) (dss_one (ds_set (i := 3) (by decide +kernel) (de_v (i := 4) (by decide +kernel)) rfl)) dss_nil)) dss_nil)) rfl) (dss_one (ds_ret (de_v (i := 3) (by decide +kernel))))))
theorem fi_scope (T : Fx G) : FnI G 2 "scope" 3 F_scope := fi_def T.h_scope T.m_scope sc_scope rfl rfl (fun _ _ _ _ _ _ us hl => match us, hl with | [_, _, _], _ => rfl) (w_scope T)
theorem sc_look_at_arrows : FnScope ["chart", "many", "arrow"] ["chart"] d13.scope := ⟨rfl, rfl, rfl, by decide +kernel, rfl, by decide +kernel, by decide +kernel⟩
theorem w_look_at_arrows (T : Fx G) : DSs G ⟨["chart", "many", "arrow"], d13.scope, 2, true, true, []⟩ d13.body B_look_at_arrows := by
  have fi_scope := fi_scope T
  exact (dss_cons (ds_set (i := 1) (by decide +kernel) (de_len (by decide +kernel) T.f_len (de_fld T.c_Chart (by decide) (de_v (i := 0) (by decide +kernel)) rfl) rfl) rfl) (dss_cons (ds_if (dt_cmp cr_gt (de_len (by decide +kernel) T.f_len (de_fld T.c_Chart (by decide) (de_v (i := 0) (by decide +kernel)) rfl) rfl) (Fx.ki_ARROWS T (by decide +kernel)) rfl) (dss_one (ds_raise T.x_BadChart (by decide +kernel) rfl)) dss_nil) (dss_one (ds_for (ix := 2) (by decide +kernel) rfl (di_list (de_fld T.c_Chart (by decide) (de_v (i := 0) (by decide +kernel)) rfl)) (dss_cons (ds_if (dt_not (dt_w (dw_and (dt_chain cr_le cr_lt de_int (de_ix (de_v (i := 2) (by decide +kernel)) de_int rfl) (de_v (i := 1) (by decide +kernel)) rfl) (dw_and (dt_chain cr_le cr_lt de_neg (de_ix (de_v (i := 2) (by decide +kernel)) de_int rfl) (de_v (i := 1) (by decide +kernel)) rfl) (dw_and1 (dt_chain cr_le cr_lt de_int (de_ix (de_v (i := 2) (by decide +kernel)) de_int rfl) (de_v (i := 1) (by decide +kernel)) rfl)))))) (dss_one (ds_raise T.x_BadChart (by decide +kernel) rfl)) dss_nil) (dss_cons (ds_if (dt_not (dt_w (dw_and (dt_chain cr_le cr_lt de_int (de_ix (de_v (i := 2) (by decide +kernel)) de_int rfl) (Fx.ki_EVENTS T (by decide +kernel)) rfl) (dw_and1 (dt_chain cr_le cr_lt de_int (de_ix (de_v (i := 2) (by decide +kernel)) de_int rfl) (Fx.ki_DEEDS T (by decide +kernel)) rfl))))) (dss_one (ds_raise T.x_BadChart (by decide +kernel) rfl)) dss_nil) (dss_one (ds_if (dt_cmp cr_isN (de_call fi_scope (by decide) rfl (by decide +kernel) (da_cons (de_v (i := 0) (by decide +kernel)) (da_cons (de_ix (de_v (i := 2) (by decide +kernel)) de_int rfl) (da_cons (de_ix (de_v (i := 2) (by decide +kernel)) de_int rfl) da_nil rfl) rfl) rfl) rfl rfl) de_non rfl) (dss_one (ds_raise T.x_BadChart (by decide +kernel) rfl)) dss_nil)))) rfl))))
theorem fi_look_at_arrows (T : Fx G) : FnI G 3 "look_at_arrows" 1 F_look_at_arrows := fi_def T.h_look_at_arrows T.m_look_at_arrows sc_look_at_arrows rfl rfl (fun _ _ _ _ _ _ us hl => match us, hl with | [_], _ => rfl) (w_look_at_arrows T)
theorem sc_look_at_rooms : FnScope ["rooms", "k", "inside", "room"] ["rooms"] d12.scope := ⟨rfl, rfl, rfl, by decide +kernel, rfl, by decide +kernel, by decide +kernel⟩
theorem w_look_at_rooms (T : Fx G) : DSs G ⟨["rooms", "k", "inside", "room"], d12.scope, 0, true, true, []⟩ d12.body B_look_at_rooms := by
  exact (dss_cons (ds_if (dt_not (dt_chain cr_le cr_le de_int (de_len (by decide +kernel) T.f_len (de_v (i := 0) (by decide +kernel)) rfl) (Fx.ki_ROOMS T (by decide +kernel)) rfl)) (dss_one (ds_raise T.x_BadChart (by decide +kernel) rfl)) dss_nil) (dss_cons (ds_if (dt_cmp (cr_ne rfl) (de_ix (de_ix (de_v (i := 0) (by decide +kernel)) de_int rfl) de_int rfl) de_neg rfl) (dss_one (ds_raise T.x_BadChart (by decide +kernel) rfl)) dss_nil) (dss_one (ds_for (ix := 1) (by decide +kernel) rfl (di_r1 (by decide +kernel) T.f_range (de_len (by decide +kernel) T.f_len (de_v (i := 0) (by decide +kernel)) rfl) rfl) (dss_cons (ds_if (dt_cmp (cr_nin rfl) (de_ix (de_ix (de_v (i := 0) (by decide +kernel)) (de_v (i := 1) (by decide +kernel)) rfl) de_int rfl) (Fx.kt_KINDS T (by decide +kernel)) rfl) (dss_one (ds_raise T.x_BadChart (by decide +kernel) rfl)) dss_nil) (dss_cons (ds_if (dt_w (dw_and (dt_cmp cr_gt (de_v (i := 1) (by decide +kernel)) de_int rfl) (dw_and1 (dt_not (dt_chain cr_le cr_lt de_int (de_ix (de_ix (de_v (i := 0) (by decide +kernel)) (de_v (i := 1) (by decide +kernel)) rfl) de_int rfl) (de_v (i := 1) (by decide +kernel)) rfl))))) (dss_one (ds_raise T.x_BadChart (by decide +kernel) rfl)) dss_nil) (dss_cons (ds_setC (i := 2) (ix := 3) (by decide +kernel) (by decide +kernel) rfl rfl (by decide +kernel) (by decide +kernel) (di_list (de_v (i := 0) (by decide +kernel))) (dts_one (dt_cmp (cr_eq rfl) (de_ix (de_v (i := 3) (by decide +kernel)) de_int rfl) (de_v (i := 1) (by decide +kernel)) rfl)) (de_v (i := 3) (by decide +kernel)) rfl) (dss_one (ds_if (dt_cmp (cr_ne rfl) (de_cmp (cr_eq rfl) (de_v (i := 2) (by decide +kernel)) (de_lst da_nil (by decide)) rfl) (de_cmp (cr_eq rfl) (de_ix (de_ix (de_v (i := 0) (by decide +kernel)) (de_v (i := 1) (by decide +kernel)) rfl) de_int rfl) de_str rfl) rfl) (dss_one (ds_raise T.x_BadChart (by decide +kernel) rfl)) dss_nil))))) rfl))))
theorem fi_look_at_rooms (T : Fx G) : FnI G 1 "look_at_rooms" 1 F_look_at_rooms := fi_def T.h_look_at_rooms T.m_look_at_rooms sc_look_at_rooms rfl rfl (fun _ _ _ _ _ _ us hl => match us, hl with | [_], _ => rfl) (w_look_at_rooms T)
theorem sc_Chart__init : FnScope ["self", "rooms", "arrows"] ["self", "rooms", "arrows"] d11_i.scope := ⟨rfl, rfl, rfl, by decide +kernel, rfl, by decide +kernel, by decide +kernel⟩
theorem w_Chart__init (T : Fx G) : DSs G ⟨["self", "rooms", "arrows"], d11_i.scope, 3, true, true, [0]⟩ d11_i.body B_Chart__init := by
  have fi_look_at_arrows := fi_look_at_arrows T
  have fi_look_at_rooms := fi_look_at_rooms T
  exact (dss_cons (ds_fld T.c_Chart (by decide) (i := 0) (by decide +kernel) (de_list (by decide +kernel) T.f_list (de_v (i := 1) (by decide +kernel)) rfl) rfl) (dss_cons (ds_fld T.c_Chart (by decide) (i := 0) (by decide +kernel) (de_list (by decide +kernel) T.f_list (de_v (i := 2) (by decide +kernel)) rfl) rfl) (dss_cons (ds_expr (de_call fi_look_at_rooms (by decide) rfl (by decide +kernel) (da_cons (de_fld T.c_Chart (by decide) (de_v (i := 0) (by decide +kernel)) rfl) da_nil rfl) rfl rfl) rfl) (dss_one (ds_expr (de_call fi_look_at_arrows (by decide) rfl (by decide +kernel) (da_cons (de_v (i := 0) (by decide +kernel)) da_nil rfl) rfl rfl) rfl)))))
theorem mi_Chart (T : Fx G) : MkI G 4 "Chart" 3 F_Chart__init := mi_def T.h_Chart__init T.g_Chart T.k_Chart sc_Chart__init rfl rfl (fun _ _ _ _ _ _ us hl => match us, hl with | [_, _, _], _ => rfl) (w_Chart__init T)
theorem sc__law_cell_at : FnScope ["script", "k"] ["script", "k"] d32.scope := ⟨rfl, rfl, rfl, by decide +kernel, rfl, by decide +kernel, by decide +kernel⟩
theorem w__law_cell_at (T : Fx G) : DSs G ⟨["script", "k"], d32.scope, 0, true, true, []⟩ d32.body B__law_cell_at := by
  exact (dss_cons (ds_if (dt_cmp cr_lt (de_v (i := 1) (by decide +kernel)) (de_len (by decide +kernel) T.f_len (de_v (i := 0) (by decide +kernel)) rfl) rfl) (dss_one (ds_ret (de_ix (de_v (i := 0) (by decide +kernel)) (de_v (i := 1) (by decide +kernel)) rfl))) dss_nil) (dss_one (ds_ret de_int)))
theorem fi__law_cell_at (T : Fx G) : FnI G 1 "_law_cell_at" 2 F__law_cell_at := fi_def T.h__law_cell_at T.m__law_cell_at sc__law_cell_at rfl rfl (fun _ _ _ _ _ _ us hl => match us, hl with | [_, _], _ => rfl) (w__law_cell_at T)
theorem sc__law_behind_event : FnScope ["place", "event", "one", "other", "first", "second"] ["place", "event", "one", "other", "first", "second"] d35.scope := ⟨rfl, rfl, rfl, by decide +kernel, rfl, by decide +kernel, by decide +kernel⟩
theorem w__law_behind_event (T : Fx G) : DSs G ⟨["place", "event", "one", "other", "first", "second"], d35.scope, 0, true, true, []⟩ d35.body B__law_behind_event := by
  exact (dss_cons (ds_if (dt_w (dw_or (dt_cmp cr_isN (de_v (i := 0) (by decide +kernel)) de_non rfl) (dw_or1 (dt_cmp (cr_eq rfl) (de_v (i := 1) (by decide +kernel)) de_int rfl)))) (dss_one (ds_ret (de_v (i := 0) (by decide +kernel)))) dss_nil) (dss_cons (ds_if (dt_cmp (cr_eq rfl) (de_v (i := 1) (by decide +kernel)) de_int rfl) (dss_one (ds_ret (de_tup (da_cons (de_mod (de_add (de_ix (de_v (i := 0) (by decide +kernel)) de_int rfl) de_int) (de_v (i := 2) (by decide +kernel))) (da_cons (de_ix (de_v (i := 0) (by decide +kernel)) de_int rfl) da_nil rfl) rfl) (by decide)))) dss_nil) (dss_cons (ds_if (dt_cmp (cr_eq rfl) (de_v (i := 1) (by decide +kernel)) de_int rfl) (dss_one (ds_ret (de_tup (da_cons (de_ix (de_v (i := 0) (by decide +kernel)) de_int rfl) (da_cons (de_mod (de_add (de_ix (de_v (i := 0) (by decide +kernel)) de_int rfl) de_int) (de_v (i := 3) (by decide +kernel))) da_nil rfl) rfl) (by decide)))) dss_nil) (dss_cons (ds_if (dt_w (dw_or (dt_cmp (cr_eq rfl) (de_ix (de_v (i := 0) (by decide +kernel)) de_int rfl) (de_v (i := 4) (by decide +kernel)) rfl) (dw_or1 (dt_cmp (cr_eq rfl) (de_ix (de_v (i := 0) (by decide +kernel)) de_int rfl) (de_v (i := 5) (by decide +kernel)) rfl)))) (dss_one (ds_ret de_non)) dss_nil) (dss_one (ds_ret (de_v (i := 0) (by decide +kernel))))))))
theorem fi__law_behind_event (T : Fx G) : FnI G 1 "_law_behind_event" 6 F__law_behind_event := fi_def T.h__law_behind_event T.m__law_behind_event sc__law_behind_event rfl rfl (fun _ _ _ _ _ _ us hl => match us, hl with | [_, _, _, _, _, _], _ => rfl) (w__law_behind_event T)
theorem sc__law_first_met : FnScope ["one", "other", "first", "second", "places", "ways", "here", "event", "behind"] ["one", "other", "first", "second"] d36.scope := ⟨rfl, rfl, rfl, by decide +kernel, rfl, by decide +kernel, by decide +kernel⟩
theorem w__law_first_met (T : Fx G) : DSs G ⟨["one", "other", "first", "second", "places", "ways", "here", "event", "behind"], d36.scope, 1, true, true, []⟩ d36.body B__law_first_met := by
  have fi__law_behind_event := fi__law_behind_event T
  exact (dss_cons (ds_setM (i := 4) (by decide +kernel) (de_lst (da_cons (de_tup (da_cons de_int (da_cons de_int da_nil rfl) rfl) (by decide)) da_nil rfl) (by decide)) rfl) (dss_cons (ds_setM (i := 5) (by decide +kernel) (de_lst (da_cons (de_tup da_nil (by decide)) da_nil rfl) (by decide)) rfl) (dss_cons (ds_set (i := 6) (by decide +kernel) de_int rfl) (dss_cons (ds_while (dt_cmp cr_lt (de_v (i := 6) (by decide +kernel)) (de_len (by decide +kernel) T.f_len (de_v (i := 4) (by decide +kernel)) rfl) rfl) (dss_cons (ds_for (ix := 7) (by decide +kernel) rfl (di_r1 (by decide +kernel) T.f_range de_int rfl) (dss_cons (ds_if (dt_w (dw_and (dt_cmp (cr_eq rfl) (de_v (i := 7) (by decide +kernel)) de_int rfl) (dw_and1 (dt_cmp (cr_eq rfl) (de_ix (de_v (i := 4) (by decide +kernel)) (de_v (i := 6) (by decide +kernel)) rfl) (de_tup (da_cons (de_v (i := 2) (by decide +kernel)) (da_cons (de_v (i := 3) (by decide +kernel)) da_nil rfl) rfl) (by decide)) rfl)))) (dss_one (ds_ret (de_add (de_ix (de_v (i := 5) (by decide +kernel)) (de_v (i := 6) (by decide +kernel)) rfl) (de_tup (da_cons (de_v (i := 7) (by decide +kernel)) da_nil rfl) (by decide))))) dss_nil) (dss_cons (ds_set (i := 8) (by decide +kernel) (de_call fi__law_behind_event (by decide) rfl (by decide +kernel) (da_cons (de_ix (de_v (i := 4) (by decide +kernel)) (de_v (i := 6) (by decide +kernel)) rfl) (da_cons (de_v (i := 7) (by decide +kernel)) (da_cons (de_v (i := 0) (by decide +kernel)) (da_cons (de_v (i := 1) (by decide +kernel)) (da_cons (de_v (i := 2) (by decide +kernel)) (da_cons (de_v (i := 3) (by decide +kernel)) da_nil rfl) rfl) rfl) rfl) rfl) rfl) rfl rfl) rfl) (dss_one (ds_if (dt_cmp (cr_nin rfl) (de_v (i := 8) (by decide +kernel)) (de_v (i := 4) (by decide +kernel)) rfl) (dss_cons (ds_if (dt_cmp (cr_eq rfl) (de_len (by decide +kernel) T.f_len (de_v (i := 4) (by decide +kernel)) rfl) de_int rfl) (dss_one (ds_ret de_non)) dss_nil) (dss_cons (ds_app (i := 4) (by decide +kernel) (de_v (i := 8) (by decide +kernel)) rfl) (dss_one (ds_app (i := 5) (by decide +kernel) (de_add (de_ix (de_v (i := 5) (by decide +kernel)) (de_v (i := 6) (by decide +kernel)) rfl) (de_tup (da_cons (de_v (i := 7) (by decide +kernel)) da_nil rfl) (by decide))) rfl)))) dss_nil)))) rfl) (dss_one (ds_set (i := 6) (by decide +kernel) (de_add (de_v (i := 6) (by decide +kernel)) de_int) rfl)))) (dss_one (ds_ret de_non))))))
theorem fi__law_first_met (T : Fx G) : FnI G 2 "_law_first_met" 4 F__law_first_met := fi_def T.h__law_first_met T.m__law_first_met sc__law_first_met rfl rfl (fun _ _ _ _ _ _ us hl => match us, hl with | [_, _, _, _], _ => rfl) (w__law_first_met T)
theorem sc__law_row : FnScope ["found", "due", "k"] ["found", "due"] d33.scope := ⟨rfl, rfl, rfl, by decide +kernel, rfl, by decide +kernel, by decide +kernel⟩
theorem w__law_row (T : Fx G) : DSs G ⟨["found", "due", "k"], d33.scope, 0, true, true, []⟩ d33.body B__law_row := by
  exact (dss_cons (ds_if (dt_w (dw_or (dt_not (dt_val (de_isi (by decide +kernel) T.f_isinstance (by decide +kernel) T.f_tuple boot_tuple (de_v (i := 0) (by decide +kernel)) rfl) rfl)) (dw_or1 (dt_cmp (cr_ne rfl) (de_len (by decide +kernel) T.f_len (de_v (i := 0) (by decide +kernel)) rfl) (de_len (by decide +kernel) T.f_len (de_v (i := 1) (by decide +kernel)) rfl) rfl)))) (dss_one (ds_ret de_bl)) dss_nil) (dss_cons (ds_for (ix := 2) (by decide +kernel) rfl (di_r1 (by decide +kernel) T.f_range (de_len (by decide +kernel) T.f_len (de_v (i := 1) (by decide +kernel)) rfl) rfl) (dss_one (ds_if (dt_w (dw_or (dt_val (de_isi (by decide +kernel) T.f_isinstance (by decide +kernel) T.f_bool boot_bool (de_ix (de_v (i := 0) (by decide +kernel)) (de_v (i := 2) (by decide +kernel)) rfl) rfl) rfl) (dw_or (dt_not (dt_val (de_isi (by decide +kernel) T.f_isinstance (by decide +kernel) T.f_int boot_int (de_ix (de_v (i := 0) (by decide +kernel)) (de_v (i := 2) (by decide +kernel)) rfl) rfl) rfl)) (dw_or1 (dt_cmp (cr_ne rfl) (de_ix (de_v (i := 0) (by decide +kernel)) (de_v (i := 2) (by decide +kernel)) rfl) (de_ix (de_v (i := 1) (by decide +kernel)) (de_v (i := 2) (by decide +kernel)) rfl) rfl))))) (dss_one (ds_ret de_bl)) dss_nil)) rfl) (dss_one (ds_ret de_bl))))
theorem fi__law_row (T : Fx G) : FnI G 1 "_law_row" 2 F__law_row := fi_def T.h__law_row T.m__law_row sc__law_row rfl rfl (fun _ _ _ _ _ _ us hl => match us, hl with | [_, _], _ => rfl) (w__law_row T)
theorem sc__law_two_halls : FnScope ["one", "other", "first", "second", "rooms", "k", "arrows", "far"] ["one", "other", "first", "second"] d34.scope := ⟨rfl, rfl, rfl, by decide +kernel, rfl, by decide +kernel, by decide +kernel⟩
theorem w__law_two_halls (T : Fx G) : DSs G ⟨["one", "other", "first", "second", "rooms", "k", "arrows", "far"], d34.scope, 0, true, true, []⟩ d34.body B__law_two_halls := by
  exact (dss_cons (ds_set (i := 4) (by decide +kernel) (de_lst (da_cons (de_tup (da_cons de_neg (da_cons de_str da_nil rfl) rfl) (by decide)) (da_cons (de_tup (da_cons de_int (da_cons de_str da_nil rfl) rfl) (by decide)) (da_cons (de_tup (da_cons de_int (da_cons de_str da_nil rfl) rfl) (by decide)) (da_cons (de_tup (da_cons de_int (da_cons de_str da_nil rfl) rfl) (by decide)) da_nil rfl) rfl) rfl) rfl) (by decide)) rfl) (dss_cons (ds_set (i := 4) (by decide +kernel) (de_add (de_add (de_add (de_v (i := 4) (by decide +kernel)) (de_comp (ix := 5) (by decide +kernel) (di_r1 (by decide +kernel) T.f_range (de_v (i := 0) (by decide +kernel)) rfl) dts_nil (de_tup (da_cons de_int (da_cons de_str da_nil rfl) rfl) (by decide)) rfl)) (de_comp (ix := 5) (by decide +kernel) (di_r1 (by decide +kernel) T.f_range (de_v (i := 1) (by decide +kernel)) rfl) dts_nil (de_tup (da_cons de_int (da_cons de_str da_nil rfl) rfl) (by decide)) rfl)) (de_lst (da_cons (de_tup (da_cons de_int (da_cons de_str da_nil rfl) rfl) (by decide)) da_nil rfl) (by decide))) rfl) (dss_cons (ds_setC (i := 6) (ix := 5) (by decide +kernel) (by decide +kernel) rfl rfl (by decide +kernel) (by decide +kernel) (di_r1 (by decide +kernel) T.f_range (de_v (i := 0) (by decide +kernel)) rfl) dts_nil (de_tup (da_cons (de_add de_int (de_v (i := 5) (by decide +kernel))) (da_cons de_int (da_cons de_neg (da_cons (de_add de_int (de_mod (de_add (de_v (i := 5) (by decide +kernel)) de_int) (de_v (i := 0) (by decide +kernel)))) (da_cons (de_v (i := 5) (by decide +kernel)) da_nil rfl) rfl) rfl) rfl) rfl) (by decide)) rfl) (dss_cons (ds_set (i := 7) (by decide +kernel) (de_add de_int (de_v (i := 0) (by decide +kernel))) rfl) (dss_cons (ds_set (i := 6) (by decide +kernel) (de_add (de_v (i := 6) (by decide +kernel)) (de_comp (ix := 5) (by decide +kernel) (di_r1 (by decide +kernel) T.f_range (de_v (i := 1) (by decide +kernel)) rfl) dts_nil (de_tup (da_cons (de_add (de_v (i := 7) (by decide +kernel)) (de_v (i := 5) (by decide +kernel))) (da_cons de_int (da_cons de_neg (da_cons (de_add (de_v (i := 7) (by decide +kernel)) (de_mod (de_add (de_v (i := 5) (by decide +kernel)) de_int) (de_v (i := 1) (by decide +kernel)))) (da_cons (de_add de_int (de_v (i := 5) (by decide +kernel))) da_nil rfl) rfl) rfl) rfl) rfl) (by decide)) rfl)) rfl) (dss_cons (ds_set (i := 6) (by decide +kernel) (de_add (de_v (i := 6) (by decide +kernel)) (de_lst (da_cons (de_tup (da_cons (de_add de_int (de_v (i := 2) (by decide +kernel))) (da_cons de_int (da_cons de_neg (da_cons (de_add (de_v (i := 7) (by decide +kernel)) (de_v (i := 1) (by decide +kernel))) (da_cons de_int da_nil rfl) rfl) rfl) rfl) rfl) (by decide)) (da_cons (de_tup (da_cons (de_add (de_v (i := 7) (by decide +kernel)) (de_v (i := 3) (by decide +kernel))) (da_cons de_int (da_cons de_neg (da_cons (de_add (de_v (i := 7) (by decide +kernel)) (de_v (i := 1) (by decide +kernel))) (da_cons de_int da_nil rfl) rfl) rfl) rfl) rfl) (by decide)) da_nil rfl) rfl) (by decide))) rfl) (dss_one (ds_ret (de_tup (da_cons (de_v (i := 4) (by decide +kernel)) (da_cons (de_v (i := 6) (by decide +kernel)) da_nil rfl) rfl) (by decide))))))))))
theorem fi__law_two_halls (T : Fx G) : FnI G 1 "_law_two_halls" 4 F__law_two_halls := fi_def T.h__law_two_halls T.m__law_two_halls sc__law_two_halls rfl rfl (fun _ _ _ _ _ _ us hl => match us, hl with | [_, _, _, _], _ => rfl) (w__law_two_halls T)
theorem sc_Clash__init : FnScope NC NC d4_i.scope := ⟨rfl, rfl, rfl, by decide +kernel, rfl, by decide +kernel, by decide +kernel⟩
theorem sc_Flat__init : FnScope ["self", "states", "rows", "ways"] ["self", "states", "rows", "ways"] d29_i.scope := ⟨rfl, rfl, rfl, by decide +kernel, rfl, by decide +kernel, by decide +kernel⟩
theorem w_Flat__init (T : Fx G) : DSs G ⟨["self", "states", "rows", "ways"], d29_i.scope, 0, true, true, [0]⟩ d29_i.body B_Flat__init := by
  exact (dss_cons (ds_fld T.c_Flat (by decide) (i := 0) (by decide +kernel) (de_v (i := 1) (by decide +kernel)) rfl) (dss_cons (ds_fld T.c_Flat (by decide) (i := 0) (by decide +kernel) (de_v (i := 2) (by decide +kernel)) rfl) (dss_one (ds_fld T.c_Flat (by decide) (i := 0) (by decide +kernel) (de_v (i := 3) (by decide +kernel)) rfl))))
theorem mi_Flat (T : Fx G) : MkI G 1 "Flat" 4 F_Flat__init := mi_def T.h_Flat__init T.g_Flat T.k_Flat sc_Flat__init rfl rfl (fun _ _ _ _ _ _ us hl => match us, hl with | [_, _, _, _], _ => rfl) (w_Flat__init T)
theorem sc_clash_of : FnScope ["chart", "numbers", "k", "mine", "j", "other"] ["chart", "numbers"] d23.scope := ⟨rfl, rfl, rfl, by decide +kernel, rfl, by decide +kernel, by decide +kernel⟩
theorem w_clash_of (T : Fx G) : DSs G ⟨["chart", "numbers", "k", "mine", "j", "other"], d23.scope, 2, true, true, []⟩ d23.body B_clash_of := by
  have fi_scope := fi_scope T
  have fi_within := fi_within T
  exact (dss_cons (ds_for (ix := 2) (by decide +kernel) rfl (di_list (de_v (i := 1) (by decide +kernel))) (dss_cons (ds_set (i := 3) (by decide +kernel) (de_call fi_scope (by decide) rfl (by decide +kernel) (da_cons (de_v (i := 0) (by decide +kernel)) (da_cons (de_ix (de_ix (de_fld T.c_Chart (by decide) (de_v (i := 0) (by decide +kernel)) rfl) (de_v (i := 2) (by decide +kernel)) rfl) de_int rfl) (da_cons (de_ix (de_ix (de_fld T.c_Chart (by decide) (de_v (i := 0) (by decide +kernel)) rfl) (de_v (i := 2) (by decide +kernel)) rfl) de_int rfl) da_nil rfl) rfl) rfl) rfl rfl) rfl) (dss_one (ds_for (ix := 4) (by decide +kernel) rfl (di_list (de_v (i := 1) (by decide +kernel))) (dss_cons (ds_set (i := 5) (by decide +kernel) (de_call fi_scope (by decide) rfl (by decide +kernel) (da_cons (de_v (i := 0) (by decide +kernel)) (da_cons (de_ix (de_ix (de_fld T.c_Chart (by decide) (de_v (i := 0) (by decide +kernel)) rfl) (de_v (i := 4) (by decide +kernel)) rfl) de_int rfl) (da_cons (de_ix (de_ix (de_fld T.c_Chart (by decide) (de_v (i := 0) (by decide +kernel)) rfl) (de_v (i := 4) (by decide +kernel)) rfl) de_int rfl) da_nil rfl) rfl) rfl) rfl rfl) rfl) (dss_one (ds_if (dt_w (dw_and (dt_cmp cr_gt (de_v (i := 4) (by decide +kernel)) (de_v (i := 2) (by decide +kernel)) rfl) (dw_and1 (dt_w (dw_or (dt_val (de_call fi_within (by decide) rfl (by decide +kernel) (da_cons (de_v (i := 0) (by decide +kernel)) (da_cons (de_v (i := 3) (by decide +kernel)) (da_cons (de_v (i := 5) (by decide +kernel)) da_nil rfl) rfl) rfl) rfl rfl) rfl) (dw_or1 (dt_val (de_call fi_within (by decide) rfl (by decide +kernel) (da_cons (de_v (i := 0) (by decide +kernel)) (da_cons (de_v (i := 5) (by decide +kernel)) (da_cons (de_v (i := 3) (by decide +kernel)) da_nil rfl) rfl) rfl) rfl rfl) rfl))))))) (dss_one (ds_ret (de_tup (da_cons (de_v (i := 2) (by decide +kernel)) (da_cons (de_v (i := 4) (by decide +kernel)) da_nil rfl) rfl) (by decide)))) dss_nil))) rfl))) rfl) (dss_one (ds_ret de_non)))
theorem fi_clash_of (T : Fx G) : FnI G 3 "clash_of" 2 F_clash_of := fi_def T.h_clash_of T.m_clash_of sc_clash_of rfl rfl (fun _ _ _ _ _ _ us hl => match us, hl with | [_, _], _ => rfl) (w_clash_of T)
theorem sc_children : FnScope ["chart", "room", "k"] ["chart", "room"] d14.scope := ⟨rfl, rfl, rfl, by decide +kernel, rfl, by decide +kernel, by decide +kernel⟩
theorem w_children (T : Fx G) : DSs G ⟨["chart", "room", "k"], d14.scope, 0, true, true, []⟩ d14.body B_children := by
  exact (dss_one (ds_ret (de_comp (ix := 2) (by decide +kernel) (di_r1 (by decide +kernel) T.f_range (de_len (by decide +kernel) T.f_len (de_fld T.c_Chart (by decide) (de_v (i := 0) (by decide +kernel)) rfl) rfl) rfl) (dts_one (dt_cmp (cr_eq rfl) (de_ix (de_ix (de_fld T.c_Chart (by decide) (de_v (i := 0) (by decide +kernel)) rfl) (de_v (i := 2) (by decide +kernel)) rfl) de_int rfl) (de_v (i := 1) (by decide +kernel)) rfl)) (de_v (i := 2) (by decide +kernel)) rfl)))
theorem fi_children (T : Fx G) : FnI G 1 "children" 2 F_children := fi_def T.h_children T.m_children sc_children rfl rfl (fun _ _ _ _ _ _ us hl => match us, hl with | [_, _], _ => rfl) (w_children T)
theorem sc_chosen : FnScope ["chart", "memory", "room", "goal", "inside", "k"] ["chart", "memory", "room", "goal"] d18.scope := ⟨rfl, rfl, rfl, by decide +kernel, rfl, by decide +kernel, by decide +kernel⟩
theorem w_chosen (T : Fx G) : DSs G ⟨["chart", "memory", "room", "goal", "inside", "k"], d18.scope, 1, true, true, []⟩ d18.body B_chosen := by
  have fi_children := fi_children T
  have fi_within := fi_within T
  exact (dss_cons (ds_set (i := 4) (by decide +kernel) (de_call fi_children (by decide) rfl (by decide +kernel) (da_cons (de_v (i := 0) (by decide +kernel)) (da_cons (de_v (i := 2) (by decide +kernel)) da_nil rfl) rfl) rfl rfl) rfl) (dss_cons (ds_for (ix := 5) (by decide +kernel) rfl (di_list (de_v (i := 4) (by decide +kernel))) (dss_one (ds_if (dt_val (de_call fi_within (by decide) rfl (by decide +kernel) (da_cons (de_v (i := 0) (by decide +kernel)) (da_cons (de_v (i := 3) (by decide +kernel)) (da_cons (de_v (i := 5) (by decide +kernel)) da_nil rfl) rfl) rfl) rfl rfl) rfl) (dss_one (ds_ret (de_v (i := 5) (by decide +kernel)))) dss_nil)) rfl) (dss_cons (ds_if (dt_cmp (cr_eq rfl) (de_ix (de_ix (de_fld T.c_Chart (by decide) (de_v (i := 0) (by decide +kernel)) rfl) (de_v (i := 2) (by decide +kernel)) rfl) de_int rfl) de_str rfl) (dss_one (ds_ret (de_ix (de_v (i := 1) (by decide +kernel)) (de_v (i := 2) (by decide +kernel)) rfl))) dss_nil) (dss_one (ds_ret (de_ix (de_v (i := 4) (by decide +kernel)) de_int rfl))))))
theorem fi_chosen (T : Fx G) : FnI G 2 "chosen" 4 F_chosen := fi_def T.h_chosen T.m_chosen sc_chosen rfl rfl (fun _ _ _ _ _ _ us hl => match us, hl with | [_, _, _, _], _ => rfl) (w_chosen T)
theorem sc_entered : FnScope ["chart", "memory", "room", "goal", "kept", "ahead", "here"] ["chart", "memory", "room", "goal"] d19.scope := ⟨rfl, rfl, rfl, by decide +kernel, rfl, by decide +kernel, by decide +kernel⟩
theorem w_entered (T : Fx G) : DSs G ⟨["chart", "memory", "room", "goal", "kept", "ahead", "here"], d19.scope, 2, true, true, []⟩ d19.body B_entered := by
  have fi_children := fi_children T
  have fi_chosen := fi_chosen T
  exact (dss_cons (ds_setM (i := 4) (by decide +kernel) (de_lst da_nil (by decide)) rfl) (dss_cons (ds_setM (i := 5) (by decide +kernel) (de_lst (da_cons (de_v (i := 2) (by decide +kernel)) da_nil rfl) (by decide)) rfl) (dss_cons (ds_while (dt_cmp (cr_ne rfl) (de_v (i := 5) (by decide +kernel)) (de_lst da_nil (by decide)) rfl) (dss_cons (ds_set (i := 6) (by decide +kernel) (de_pop (i := 5) (by decide +kernel)) rfl) (dss_cons (ds_app (i := 4) (by decide +kernel) (de_v (i := 6) (by decide +kernel)) rfl) (dss_cons (ds_if (dt_cmp (cr_eq rfl) (de_ix (de_ix (de_fld T.c_Chart (by decide) (de_v (i := 0) (by decide +kernel)) rfl) (de_v (i := 6) (by decide +kernel)) rfl) de_int rfl) de_str rfl) (dss_one (ds_ext (i := 5) (by decide +kernel) (de_call fi_children (by decide) rfl (by decide +kernel) (da_cons (de_v (i := 0) (by decide +kernel)) (da_cons (de_v (i := 6) (by decide +kernel)) da_nil rfl) rfl) rfl rfl) rfl)) dss_nil) (dss_one (ds_if (dt_cmp (cr_in rfl) (de_ix (de_ix (de_fld T.c_Chart (by decide) (de_v (i := 0) (by decide +kernel)) rfl) (de_v (i := 6) (by decide +kernel)) rfl) de_int rfl) (de_tup (da_cons de_str (da_cons de_str da_nil rfl) rfl) (by decide)) rfl) (dss_one (ds_app (i := 5) (by decide +kernel) (de_call fi_chosen (by decide) rfl (by decide +kernel) (da_cons (de_v (i := 0) (by decide +kernel)) (da_cons (de_v (i := 1) (by decide +kernel)) (da_cons (de_v (i := 6) (by decide +kernel)) (da_cons (de_v (i := 3) (by decide +kernel)) da_nil rfl) rfl) rfl) rfl) rfl rfl) rfl)) dss_nil)))))) (dss_one (ds_ret (de_v (i := 4) (by decide +kernel)))))))
theorem fi_entered (T : Fx G) : FnI G 3 "entered" 4 F_entered := fi_def T.h_entered T.m_entered sc_entered rfl rfl (fun _ _ _ _ _ _ us hl => match us, hl with | [_, _, _, _], _ => rfl) (w_entered T)
theorem sc_started : FnScope ["chart", "memory", "k"] ["chart"] d20.scope := ⟨rfl, rfl, rfl, by decide +kernel, rfl, by decide +kernel, by decide +kernel⟩
theorem w_started (T : Fx G) : DSs G ⟨["chart", "memory", "k"], d20.scope, 3, true, true, []⟩ d20.body B_started := by
  have fi_children := fi_children T
  have fi_entered := fi_entered T
  exact (dss_cons (ds_setM (i := 1) (by decide +kernel) (de_lst da_nil (by decide)) rfl) (dss_cons (ds_for (ix := 2) (by decide +kernel) rfl (di_r1 (by decide +kernel) T.f_range (de_len (by decide +kernel) T.f_len (de_fld T.c_Chart (by decide) (de_v (i := 0) (by decide +kernel)) rfl) rfl) rfl) (dss_one (ds_if (dt_cmp (cr_eq rfl) (de_ix (de_ix (de_fld T.c_Chart (by decide) (de_v (i := 0) (by decide +kernel)) rfl) (de_v (i := 2) (by decide +kernel)) rfl) de_int rfl) de_str rfl) (dss_one (ds_app (i := 1) (by decide +kernel) (de_ix (de_call fi_children (by decide) rfl (by decide +kernel) (da_cons (de_v (i := 0) (by decide +kernel)) (da_cons (de_v (i := 2) (by decide +kernel)) da_nil rfl) rfl) rfl rfl) de_int rfl) rfl)) (dss_one (ds_app (i := 1) (by decide +kernel) de_neg rfl)))) rfl) (dss_one (ds_ret (de_tup (da_cons (de_tuple (by decide +kernel) T.f_tuple (de_sorted (by decide +kernel) T.f_sorted (de_call fi_entered (by decide) rfl (by decide +kernel) (da_cons (de_v (i := 0) (by decide +kernel)) (da_cons (de_v (i := 1) (by decide +kernel)) (da_cons de_int (da_cons de_int da_nil rfl) rfl) rfl) rfl) rfl rfl) rfl) rfl) (da_cons (de_tuple (by decide +kernel) T.f_tuple (de_v (i := 1) (by decide +kernel)) rfl) da_nil rfl) rfl) (by decide))))))
theorem fi_started (T : Fx G) : FnI G 4 "started" 1 F_started := fi_def T.h_started T.m_started sc_started rfl rfl (fun _ _ _ _ _ _ us hl => match us, hl with | [_], _ => rfl) (w_started T)
theorem sc_gone : FnScope ["chart", "kept", "memory", "arrow", "ring", "stay", "k"] ["chart", "kept", "memory", "arrow"] d24.scope := ⟨rfl, rfl, rfl, by decide +kernel, rfl, by decide +kernel, by decide +kernel⟩
theorem w_gone (T : Fx G) : DSs G ⟨["chart", "kept", "memory", "arrow", "ring", "stay", "k"], d24.scope, 3, true, true, []⟩ d24.body B_gone := by
  have fi_chosen := fi_chosen T
  have fi_entered := fi_entered T
  have fi_scope := fi_scope T
  have fi_within := fi_within T
  exact (dss_cons (ds_set (i := 4) (by decide +kernel) (de_call fi_scope (by decide) rfl (by decide +kernel) (da_cons (de_v (i := 0) (by decide +kernel)) (da_cons (de_ix (de_v (i := 3) (by decide +kernel)) de_int rfl) (da_cons (de_ix (de_v (i := 3) (by decide +kernel)) de_int rfl) da_nil rfl) rfl) rfl) rfl rfl) rfl) (dss_cons (ds_setC (i := 5) (ix := 6) (by decide +kernel) (by decide +kernel) rfl rfl (by decide +kernel) (by decide +kernel) (di_list (de_v (i := 1) (by decide +kernel))) (dts_one (dt_w (dw_or (dt_cmp (cr_eq rfl) (de_v (i := 6) (by decide +kernel)) (de_v (i := 4) (by decide +kernel)) rfl) (dw_or1 (dt_not (dt_val (de_call fi_within (by decide) rfl (by decide +kernel) (da_cons (de_v (i := 0) (by decide +kernel)) (da_cons (de_v (i := 6) (by decide +kernel)) (da_cons (de_v (i := 4) (by decide +kernel)) da_nil rfl) rfl) rfl) rfl rfl) rfl)))))) (de_v (i := 6) (by decide +kernel)) rfl) (dss_one (ds_ret (de_sorted (by decide +kernel) T.f_sorted (de_add (de_v (i := 5) (by decide +kernel)) (de_call fi_entered (by decide) rfl (by decide +kernel) (da_cons (de_v (i := 0) (by decide +kernel)) (da_cons (de_v (i := 2) (by decide +kernel)) (da_cons (de_call fi_chosen (by decide) rfl (by decide +kernel) (da_cons (de_v (i := 0) (by decide +kernel)) (da_cons (de_v (i := 2) (by decide +kernel)) (da_cons (de_v (i := 4) (by decide +kernel)) (da_cons (de_ix (de_v (i := 3) (by decide +kernel)) de_int rfl) da_nil rfl) rfl) rfl) rfl) rfl rfl) (da_cons (de_ix (de_v (i := 3) (by decide +kernel)) de_int rfl) da_nil rfl) rfl) rfl) rfl) rfl rfl)) rfl)))))
theorem fi_gone (T : Fx G) : FnI G 4 "gone" 4 F_gone := fi_def T.h_gone T.m_gone sc_gone rfl rfl (fun _ _ _ _ _ _ us hl => match us, hl with | [_, _, _, _], _ => rfl) (w_gone T)
theorem sc_remembered : FnScope ["chart", "kept", "memory", "found", "k", "holder"] ["chart", "kept", "memory"] d25.scope := ⟨rfl, rfl, rfl, by decide +kernel, rfl, by decide +kernel, by decide +kernel⟩
theorem w_remembered (T : Fx G) : DSs G ⟨["chart", "kept", "memory", "found", "k", "holder"], d25.scope, 0, true, true, []⟩ d25.body B_remembered := by
  exact (dss_cons (ds_setM (i := 3) (by decide +kernel) (de_list (by decide +kernel) T.f_list (de_v (i := 2) (by decide +kernel)) rfl) rfl) (dss_cons (ds_for (ix := 4) (by decide +kernel) rfl (di_list (de_v (i := 1) (by decide +kernel))) (dss_cons (ds_set (i := 5) (by decide +kernel) (de_ix (de_ix (de_fld T.c_Chart (by decide) (de_v (i := 0) (by decide +kernel)) rfl) (de_v (i := 4) (by decide +kernel)) rfl) de_int rfl) rfl) (dss_one (ds_if (dt_w (dw_and (dt_cmp cr_ge (de_v (i := 5) (by decide +kernel)) de_int rfl) (dw_and1 (dt_cmp (cr_eq rfl) (de_ix (de_ix (de_fld T.c_Chart (by decide) (de_v (i := 0) (by decide +kernel)) rfl) (de_v (i := 5) (by decide +kernel)) rfl) de_int rfl) de_str rfl)))) (dss_one (ds_put (i := 3) (pos' := ⟨0, 0, 0, 0⟩) (by decide +kernel) (de_v (i := 5) (by decide +kernel)) (de_v (i := 4) (by decide +kernel)) rfl)) dss_nil))) rfl) (dss_one (ds_ret (de_tuple (by decide +kernel) T.f_tuple (de_v (i := 3) (by decide +kernel)) rfl)))))
theorem fi_remembered (T : Fx G) : FnI G 1 "remembered" 3 F_remembered := fi_def T.h_remembered T.m_remembered sc_remembered rfl rfl (fun _ _ _ _ _ _ us hl => match us, hl with | [_, _, _], _ => rfl) (w_remembered T)
theorem sc_opened : FnScope ["chart", "kept", "event", "found", "k", "arrow"] ["chart", "kept", "event"] d21.scope := ⟨rfl, rfl, rfl, by decide +kernel, rfl, by decide +kernel, by decide +kernel⟩
theorem w_opened (T : Fx G) : DSs G ⟨["chart", "kept", "event", "found", "k", "arrow"], d21.scope, 0, true, true, []⟩ d21.body B_opened := by
  exact (dss_cons (ds_setM (i := 3) (by decide +kernel) (de_lst da_nil (by decide)) rfl) (dss_cons (ds_for (ix := 4) (by decide +kernel) rfl (di_r1 (by decide +kernel) T.f_range (de_len (by decide +kernel) T.f_len (de_fld T.c_Chart (by decide) (de_v (i := 0) (by decide +kernel)) rfl) rfl) rfl) (dss_cons (ds_set (i := 5) (by decide +kernel) (de_ix (de_fld T.c_Chart (by decide) (de_v (i := 0) (by decide +kernel)) rfl) (de_v (i := 4) (by decide +kernel)) rfl) rfl) (dss_one (ds_if (dt_w (dw_and (dt_cmp (cr_in rfl) (de_ix (de_v (i := 5) (by decide +kernel)) de_int rfl) (de_v (i := 1) (by decide +kernel)) rfl) (dw_and1 (dt_cmp (cr_eq rfl) (de_ix (de_v (i := 5) (by decide +kernel)) de_int rfl) (de_v (i := 2) (by decide +kernel)) rfl)))) (dss_one (ds_if (dt_w (dw_or (dt_cmp (cr_eq rfl) (de_ix (de_v (i := 5) (by decide +kernel)) de_int rfl) de_neg rfl) (dw_or1 (dt_cmp (cr_in rfl) (de_ix (de_v (i := 5) (by decide +kernel)) de_int rfl) (de_v (i := 1) (by decide +kernel)) rfl)))) (dss_one (ds_app (i := 3) (by decide +kernel) (de_v (i := 4) (by decide +kernel)) rfl)) dss_nil)) dss_nil))) rfl) (dss_one (ds_ret (de_v (i := 3) (by decide +kernel))))))
theorem fi_opened (T : Fx G) : FnI G 1 "opened" 3 F_opened := fi_def T.h_opened T.m_opened sc_opened rfl rfl (fun _ _ _ _ _ _ us hl => match us, hl with | [_, _, _], _ => rfl) (w_opened T)
theorem sc_takeable : FnScope ["chart", "kept", "event", "ready", "found", "k", "source", "hidden", "j"] ["chart", "kept", "event"] d22.scope := ⟨rfl, rfl, rfl, by decide +kernel, rfl, by decide +kernel, by decide +kernel⟩
theorem w_takeable (T : Fx G) : DSs G ⟨["chart", "kept", "event", "ready", "found", "k", "source", "hidden", "j"], d22.scope, 1, true, true, []⟩ d22.body B_takeable := by
  have fi_opened := fi_opened T
  have fi_within := fi_within T
  exact (dss_cons (ds_set (i := 3) (by decide +kernel) (de_call fi_opened (by decide) rfl (by decide +kernel) (da_cons (de_v (i := 0) (by decide +kernel)) (da_cons (de_v (i := 1) (by decide +kernel)) (da_cons (de_v (i := 2) (by decide +kernel)) da_nil rfl) rfl) rfl) rfl rfl) rfl) (dss_cons (ds_setM (i := 4) (by decide +kernel) (de_lst da_nil (by decide)) rfl) (dss_cons (ds_for (ix := 5) (by decide +kernel) rfl (di_list (de_v (i := 3) (by decide +kernel))) (dss_cons (ds_set (i := 6) (by decide +kernel) (de_ix (de_ix (de_fld T.c_Chart (by decide) (de_v (i := 0) (by decide +kernel)) rfl) (de_v (i := 5) (by decide +kernel)) rfl) de_int rfl) rfl) (dss_cons (ds_set (i := 7) (by decide +kernel) de_bl rfl) (dss_cons (ds_for (ix := 8) (by decide +kernel) rfl (di_list (de_v (i := 3) (by decide +kernel))) (dss_one (ds_if (dt_w (dw_and (dt_cmp (cr_ne rfl) (de_ix (de_ix (de_fld T.c_Chart (by decide) (de_v (i := 0) (by decide +kernel)) rfl) (de_v (i := 8) (by decide +kernel)) rfl) de_int rfl) (de_v (i := 6) (by decide +kernel)) rfl) (dw_and1 (dt_val (de_call fi_within (by decide) rfl (by decide +kernel) (da_cons (de_v (i := 0) (by decide +kernel)) (da_cons (de_ix (de_ix (de_fld T.c_Chart (by decide) (de_v (i := 0) (by decide +kernel)) rfl) (de_v (i := 8) (by decide +kernel)) rfl) de_int rfl) (da_cons (de_v (i := 6) (by decide +kernel)) da_nil rfl) rfl) rfl) rfl rfl) rfl)))) (dss_one (ds_set (i := 7) (by decide +kernel) de_bl rfl)) dss_nil)) rfl) (dss_one (ds_if (dt_not (dt_val (de_v (i := 7) (by decide +kernel)) rfl)) (dss_one (ds_app (i := 4) (by decide +kernel) (de_v (i := 5) (by decide +kernel)) rfl)) dss_nil))))) rfl) (dss_one (ds_ret (de_v (i := 4) (by decide +kernel)))))))
theorem fi_takeable (T : Fx G) : FnI G 2 "takeable" 3 F_takeable := fi_def T.h_takeable T.m_takeable sc_takeable rfl rfl (fun _ _ _ _ _ _ us hl => match us, hl with | [_, _, _], _ => rfl) (w_takeable T)
theorem sc_stepped : FnScope ["chart", "state", "event", "taken", "pair", "kept", "k", "deeds"] ["chart", "state", "event"] d26.scope := ⟨rfl, rfl, rfl, by decide +kernel, rfl, by decide +kernel, by decide +kernel⟩
theorem w_stepped (T : Fx G) : DSs G ⟨["chart", "state", "event", "taken", "pair", "kept", "k", "deeds"], d26.scope, 4, true, true, []⟩ d26.body B_stepped := by
  have fi_clash_of := fi_clash_of T
  have fi_gone := fi_gone T
  have fi_remembered := fi_remembered T
  have fi_takeable := fi_takeable T
  exact (dss_cons (ds_set (i := 3) (by decide +kernel) (de_call fi_takeable (by decide) rfl (by decide +kernel) (da_cons (de_v (i := 0) (by decide +kernel)) (da_cons (de_ix (de_v (i := 1) (by decide +kernel)) de_int rfl) (da_cons (de_v (i := 2) (by decide +kernel)) da_nil rfl) rfl) rfl) rfl rfl) rfl) (dss_cons (ds_set (i := 4) (by decide +kernel) (de_call fi_clash_of (by decide) rfl (by decide +kernel) (da_cons (de_v (i := 0) (by decide +kernel)) (da_cons (de_v (i := 3) (by decide +kernel)) da_nil rfl) rfl) rfl rfl) rfl) (dss_cons (ds_if (dt_cmp cr_notN (de_v (i := 4) (by decide +kernel)) de_non rfl) (dss_one (ds_raiseC T.x_Clash (by decide +kernel) rfl (by decide) (da_cons (de_tup (da_cons (de_v (i := 2) (by decide +kernel)) da_nil rfl) (by decide)) (da_cons (de_ix (de_v (i := 4) (by decide +kernel)) de_int rfl) (da_cons (de_ix (de_v (i := 4) (by decide +kernel)) de_int rfl) da_nil rfl) rfl) rfl) rfl)) dss_nil) (dss_cons (ds_set (i := 5) (by decide +kernel) (de_list (by decide +kernel) T.f_list (de_ix (de_v (i := 1) (by decide +kernel)) de_int rfl) rfl) rfl) (dss_cons (ds_for (ix := 6) (by decide +kernel) rfl (di_list (de_v (i := 3) (by decide +kernel))) (dss_one (ds_set (i := 5) (by decide +kernel) (de_call fi_gone (by decide) rfl (by decide +kernel) (da_cons (de_v (i := 0) (by decide +kernel)) (da_cons (de_v (i := 5) (by decide +kernel)) (da_cons (de_ix (de_v (i := 1) (by decide +kernel)) de_int rfl) (da_cons (de_ix (de_fld T.c_Chart (by decide) (de_v (i := 0) (by decide +kernel)) rfl) (de_v (i := 6) (by decide +kernel)) rfl) da_nil rfl) rfl) rfl) rfl) rfl rfl) rfl)) rfl) (dss_cons (ds_set (i := 7) (by decide +kernel) (de_tuple (by decide +kernel) T.f_tuple (de_comp (ix := 6) (by decide +kernel) (di_list (de_v (i := 3) (by decide +kernel))) dts_nil (de_ix (de_ix (de_fld T.c_Chart (by decide) (de_v (i := 0) (by decide +kernel)) rfl) (de_v (i := 6) (by decide +kernel)) rfl) de_int rfl) rfl) rfl) rfl) (dss_one (ds_ret (de_tup (da_cons (de_tup (da_cons (de_tuple (by decide +kernel) T.f_tuple (de_v (i := 5) (by decide +kernel)) rfl) (da_cons (de_call fi_remembered (by decide) rfl (by decide +kernel) (da_cons (de_v (i := 0) (by decide +kernel)) (da_cons (de_v (i := 5) (by decide +kernel)) (da_cons (de_ix (de_v (i := 1) (by decide +kernel)) de_int rfl) da_nil rfl) rfl) rfl) rfl rfl) da_nil rfl) rfl) (by decide)) (da_cons (de_v (i := 7) (by decide +kernel)) da_nil rfl) rfl) (by decide))))))))))
theorem fi_stepped (T : Fx G) : FnI G 5 "stepped" 3 F_stepped := fi_def T.h_stepped T.m_stepped sc_stepped rfl rfl (fun _ _ _ _ _ _ us hl => match us, hl with | [_, _, _], _ => rfl) (w_stepped T)
theorem sc_folded : FnScope ["chart", "states", "ways", "rows", "here", "row", "event", "pair", "behind"] ["chart"] d30.scope := ⟨rfl, rfl, rfl, by decide +kernel, rfl, by decide +kernel, by decide +kernel⟩
theorem w_folded (T : Fx G) : DSs G ⟨["chart", "states", "ways", "rows", "here", "row", "event", "pair", "behind"], d30.scope, 5, true, true, []⟩ d30.body B_folded := by
  have mi_Flat := mi_Flat T
  have fi_clash_of := fi_clash_of T
  have fi_started := fi_started T
  have fi_stepped := fi_stepped T
  have fi_takeable := fi_takeable T
  exact (dss_cons (ds_setM (i := 1) (by decide +kernel) (de_lst (da_cons (de_call fi_started (by decide) rfl (by decide +kernel) (da_cons (de_v (i := 0) (by decide +kernel)) da_nil rfl) rfl rfl) da_nil rfl) (by decide)) rfl) (dss_cons (ds_setM (i := 2) (by decide +kernel) (de_lst (da_cons (de_tup da_nil (by decide)) da_nil rfl) (by decide)) rfl) (dss_cons (ds_setM (i := 3) (by decide +kernel) (de_lst da_nil (by decide)) rfl) (dss_cons (ds_while (dt_cmp cr_lt (de_len (by decide +kernel) T.f_len (de_v (i := 3) (by decide +kernel)) rfl) (de_len (by decide +kernel) T.f_len (de_v (i := 1) (by decide +kernel)) rfl) rfl) (dss_cons (ds_set (i := 4) (by decide +kernel) (de_len (by decide +kernel) T.f_len (de_v (i := 3) (by decide +kernel)) rfl) rfl) (dss_cons (ds_setM (i := 5) (by decide +kernel) (de_lst da_nil (by decide)) rfl) (dss_cons (ds_for (ix := 6) (by decide +kernel) rfl (di_r1 (by decide +kernel) T.f_range (Fx.ki_EVENTS T (by decide +kernel)) rfl) (dss_cons (ds_set (i := 7) (by decide +kernel) (de_call fi_clash_of (by decide) rfl (by decide +kernel) (da_cons (de_v (i := 0) (by decide +kernel)) (da_cons (de_call fi_takeable (by decide) rfl (by decide +kernel) (da_cons (de_v (i := 0) (by decide +kernel)) (da_cons (de_ix (de_ix (de_v (i := 1) (by decide +kernel)) (de_v (i := 4) (by decide +kernel)) rfl) de_int rfl) (da_cons (de_v (i := 6) (by decide +kernel)) da_nil rfl) rfl) rfl) rfl rfl) da_nil rfl) rfl) rfl rfl) rfl) (dss_cons (ds_if (dt_cmp cr_notN (de_v (i := 7) (by decide +kernel)) de_non rfl) (dss_one (ds_raiseC T.x_Clash (by decide +kernel) rfl (by decide) (da_cons (de_add (de_ix (de_v (i := 2) (by decide +kernel)) (de_v (i := 4) (by decide +kernel)) rfl) (de_tup (da_cons (de_v (i := 6) (by decide +kernel)) da_nil rfl) (by decide))) (da_cons (de_ix (de_v (i := 7) (by decide +kernel)) de_int rfl) (da_cons (de_ix (de_v (i := 7) (by decide +kernel)) de_int rfl) da_nil rfl) rfl) rfl) rfl)) dss_nil) (dss_cons (ds_set (i := 8) (by decide +kernel) (de_call fi_stepped (by decide) rfl (by decide +kernel) (da_cons (de_v (i := 0) (by decide +kernel)) (da_cons (de_ix (de_v (i := 1) (by decide +kernel)) (de_v (i := 4) (by decide +kernel)) rfl) (da_cons (de_v (i := 6) (by decide +kernel)) da_nil rfl) rfl) rfl) rfl rfl) rfl) (dss_cons (ds_if (dt_cmp (cr_nin rfl) (de_ix (de_v (i := 8) (by decide +kernel)) de_int rfl) (de_v (i := 1) (by decide +kernel)) rfl) (dss_cons (ds_if (dt_cmp (cr_eq rfl) (de_len (by decide +kernel) T.f_len (de_v (i := 1) (by decide +kernel)) rfl) (Fx.ki_STATES T (by decide +kernel)) rfl) (dss_one (ds_raise T.x_TooMany (by decide +kernel) rfl)) dss_nil) (dss_cons (ds_app (i := 1) (by decide +kernel) (de_ix (de_v (i := 8) (by decide +kernel)) de_int rfl) rfl) (dss_one (ds_app (i := 2) (by decide +kernel) (de_add (de_ix (de_v (i := 2) (by decide +kernel)) (de_v (i := 4) (by decide +kernel)) rfl) (de_tup (da_cons (de_v (i := 6) (by decide +kernel)) da_nil rfl) (by decide))) rfl)))) dss_nil) (dss_one (ds_app (i := 5) (by decide +kernel) (de_tup (da_cons (de_index rfl (de_v (i := 1) (by decide +kernel)) (da_cons (de_ix (de_v (i := 8) (by decide +kernel)) de_int rfl) da_nil rfl) rfl rfl) (da_cons (de_ix (de_v (i := 8) (by decide +kernel)) de_int rfl) da_nil rfl) rfl) (by decide)) rfl)))))) rfl) (dss_one (ds_app (i := 3) (by decide +kernel) (de_v (i := 5) (by decide +kernel)) rfl)))))) (dss_one (ds_ret (de_make mi_Flat (by decide) rfl (by decide +kernel) (da_cons (de_v (i := 1) (by decide +kernel)) (da_cons (de_v (i := 3) (by decide +kernel)) (da_cons (de_v (i := 2) (by decide +kernel)) da_nil rfl) rfl) rfl) rfl rfl)))))))
theorem fi_folded (T : Fx G) : FnI G 6 "folded" 1 F_folded := fi_def T.h_folded T.m_folded sc_folded rfl rfl (fun _ _ _ _ _ _ us hl => match us, hl with | [_], _ => rfl) (w_folded T)
theorem sc_law : FnScope ["script", "one", "other", "first", "second", "halls", "chart", "refused", "many", "e", "due"] ["script"] d37.scope := ⟨rfl, rfl, rfl, by decide +kernel, rfl, by decide +kernel, by decide +kernel⟩
theorem w_law (T : Fx G) : DSs G ⟨["script", "one", "other", "first", "second", "halls", "chart", "refused", "many", "e", "due"], d37.scope, 6, true, true, []⟩ d37.body B_law := by
  have mi_Chart := mi_Chart T
  have fi__law_cell_at := fi__law_cell_at T
  have fi__law_first_met := fi__law_first_met T
  have fi__law_row := fi__law_row T
  have fi__law_two_halls := fi__law_two_halls T
  have fi_folded := fi_folded T
  exact (dss_cons (ds_set (i := 1) (by decide +kernel) (de_add de_int (de_mod (de_call fi__law_cell_at (by decide) rfl (by decide +kernel) (da_cons (de_v (i := 0) (by decide +kernel)) (da_cons de_int da_nil rfl) rfl) rfl rfl) de_int)) rfl) (dss_cons (ds_set (i := 2) (by decide +kernel) (de_add de_int (de_mod (de_call fi__law_cell_at (by decide) rfl (by decide +kernel) (da_cons (de_v (i := 0) (by decide +kernel)) (da_cons de_int da_nil rfl) rfl) rfl rfl) de_int)) rfl) (dss_cons (ds_if (dt_cmp (cr_eq rfl) (de_mod (de_call fi__law_cell_at (by decide) rfl (by decide +kernel) (da_cons (de_v (i := 0) (by decide +kernel)) (da_cons de_int da_nil rfl) rfl) rfl rfl) de_int) de_int rfl) (dss_cons (ds_set (i := 1) (by decide +kernel) (de_add de_int (de_mod (de_call fi__law_cell_at (by decide) rfl (by decide +kernel) (da_cons (de_v (i := 0) (by decide +kernel)) (da_cons de_int da_nil rfl) rfl) rfl rfl) de_int)) rfl) (dss_one (ds_set (i := 2) (by decide +kernel) (de_sub de_int (de_v (i := 1) (by decide +kernel))) rfl))) dss_nil) (dss_cons (ds_set (i := 3) (by decide +kernel) (de_mod (de_call fi__law_cell_at (by decide) rfl (by decide +kernel) (da_cons (de_v (i := 0) (by decide +kernel)) (da_cons de_int da_nil rfl) rfl) rfl rfl) (de_v (i := 1) (by decide +kernel))) rfl) (dss_cons (ds_set (i := 4) (by decide +kernel) (de_mod (de_call fi__law_cell_at (by decide) rfl (by decide +kernel) (da_cons (de_v (i := 0) (by decide +kernel)) (da_cons de_int da_nil rfl) rfl) rfl rfl) (de_v (i := 2) (by decide +kernel))) rfl) (dss_cons (ds_set (i := 5) (by decide +kernel) (de_call fi__law_two_halls (by decide) rfl (by decide +kernel) (da_cons (de_v (i := 1) (by decide +kernel)) (da_cons (de_v (i := 2) (by decide +kernel)) (da_cons (de_v (i := 3) (by decide +kernel)) (da_cons (de_v (i := 4) (by decide +kernel)) da_nil rfl) rfl) rfl) rfl) rfl rfl) rfl) (dss_cons (ds_set (i := 6) (by decide +kernel) (de_make mi_Chart (by decide) rfl (by decide +kernel) (da_cons (de_ix (de_v (i := 5) (by decide +kernel)) de_int rfl) (da_cons (de_ix (de_v (i := 5) (by decide +kernel)) de_int rfl) da_nil rfl) rfl) rfl rfl) rfl) (dss_cons (ds_set (i := 7) (by decide +kernel) de_non rfl) (dss_cons (ds_set (i := 8) (by decide +kernel) de_bl rfl) (dss_cons (ds_tryX rfl rfl (dss_one (ds_expr (de_call fi_folded (by decide) rfl (by decide +kernel) (da_cons (de_v (i := 6) (by decide +kernel)) da_nil rfl) rfl rfl) rfl)) (.one T.n_TooMany (by decide +kernel) (dss_one (ds_set (i := 8) (by decide +kernel) de_bl rfl)) (.as T.n_Clash (i := 9) (by decide +kernel) (by decide +kernel) (by decide +kernel) (dss_one (ds_set (i := 7) (by decide +kernel) (de_tup (da_cons (de_xf T.xf_events (i := 9) (by decide +kernel)) (da_cons (de_tup (da_cons (de_xf T.xf_first (i := 9) (by decide +kernel)) (da_cons (de_xf T.xf_second (i := 9) (by decide +kernel)) da_nil rfl) rfl) (by decide)) da_nil rfl) rfl) (by decide)) rfl)) .nil))) (dss_cons (ds_set (i := 10) (by decide +kernel) (de_call fi__law_first_met (by decide) rfl (by decide +kernel) (da_cons (de_v (i := 1) (by decide +kernel)) (da_cons (de_v (i := 2) (by decide +kernel)) (da_cons (de_v (i := 3) (by decide +kernel)) (da_cons (de_v (i := 4) (by decide +kernel)) da_nil rfl) rfl) rfl) rfl) rfl rfl) rfl) (dss_cons (ds_if (dt_cmp cr_isN (de_v (i := 10) (by decide +kernel)) de_non rfl) (dss_one (ds_ret (de_v (i := 8) (by decide +kernel)))) dss_nil) (dss_cons (ds_if (dt_w (dw_or (dt_val (de_v (i := 8) (by decide +kernel)) rfl) (dw_or1 (dt_cmp cr_isN (de_v (i := 7) (by decide +kernel)) de_non rfl)))) (dss_one (ds_ret de_bl)) dss_nil) (dss_one (ds_ret (de_and (de_call fi__law_row (by decide) rfl (by decide +kernel) (da_cons (de_ix (de_v (i := 7) (by decide +kernel)) de_int rfl) (da_cons (de_v (i := 10) (by decide +kernel)) da_nil rfl) rfl) rfl rfl) (de_one (de_call fi__law_row (by decide) rfl (by decide +kernel) (da_cons (de_ix (de_v (i := 7) (by decide +kernel)) de_int rfl) (da_cons (de_tup (da_cons (de_add (de_v (i := 1) (by decide +kernel)) (de_v (i := 2) (by decide +kernel))) (da_cons (de_add (de_add (de_v (i := 1) (by decide +kernel)) (de_v (i := 2) (by decide +kernel))) de_int) da_nil rfl) rfl) (by decide)) da_nil rfl) rfl) rfl rfl))))))))))))))))))
theorem fi_law (T : Fx G) : FnI G 7 "law" 1 F_law := fi_def T.h_law T.m_law sc_law rfl rfl (fun _ _ _ _ _ _ us hl => match us, hl with | [_], _ => rfl) (w_law T)
end
/-! ### the head -/
abbrev R : PySem.W.OpenRow := PySem.W.OpenLaw.row PySem.Challenge.rw_chartfold_k20_which_refusal
/-- what is looked at behind the top -/
abbrev hk : PySem.W.Hook where
  α := He.AlD × Bool
  obs := fun s => (He.obsDG 5 fa fn s.heap.get?, (exB (He.frG s.heap.get? (He.asD s.heap.get? 5))).all id)
  val := fun _ => (He.valD fn, true)
  says := fun _ h => ∃ K : PySem.W.Frag, K.In h ∧ He.SaysD fa fn K ∧ (exB K).all id = true
  of := fun _ _ e => ⟨_, He.frG_in, congrArg (fun z : He.AlD × Bool => z.1) e, congrArg (fun z : He.AlD × Bool => z.2) e⟩
  keeps := fun _ _ _ ⟨K, hK, c⟩ k => ⟨K, PySem.W.Frag.In.keeps hK k, c⟩
def ob (s : PySem.W.SharedT) : He.AlD × Bool := (He.obsDG 5 fa fn (HandSHeadRun.getT s), (exB (He.frG (HandSHeadRun.getT s) (He.asD (HandSHeadRun.getT s) 5))).all id)
theorem ob_eq (s : PySem.W.SharedT) : ob s = hk.obs s.abs := by
  have e : HandSHeadRun.getT s = s.abs.heap.get? := funext (HandSHeadRun.getT_eq s)
  unfold ob
  rw [e]
def loose : List Str := (["ARROWS", "BadChart", "Chart", "ChartError", "Clash", "DEEDS", "EVENTS", "Flat", "KINDS", "ROOMS", "STATES", "TooMany", "_law_behind_event", "_law_cell_at", "_law_first_met", "_law_row", "_law_two_halls", "children", "chosen", "clash_of"] : List Str) ++ (["entered", "folded", "gone", "look_at_arrows", "look_at_rooms", "opened", "remembered", "scope", "started", "stepped", "takeable", "within"] : List Str)
theorem run (w : World) : HandSHeadRun.RunEq R (PySem.W.view R.prog [37]) hk ob 8000 loose w := by
  intro os
  kernel_rfl
theorem facts {G : Gb} {h : Heap} (X : G.K.In h) (Gn : h.Ns mainGlobals G.mg) (c : He.SaysD fa fn G.K) (cx : (exB G.K).all id = true) : Fx G := by
  have exf : ∀ (i : Nat) {b : Bool}, (exB G.K)[i]? = some b → b = true := fun i b e => List.all_eq_true.mp cx b (List.mem_of_getElem? e)
  exact {
    m_within := He.glo_ok X Gn (c.fact 0 (f := .glo "within") rfl)
    h_within := c.def_ 0 (d := d15) rfl
    m_scope := He.glo_ok X Gn (c.fact 1 (f := .glo "scope") rfl)
    h_scope := c.def_ 1 (d := d16) rfl
    m_look_at_arrows := He.glo_ok X Gn (c.fact 2 (f := .glo "look_at_arrows") rfl)
    h_look_at_arrows := c.def_ 2 (d := d13) rfl
    m_look_at_rooms := He.glo_ok X Gn (c.fact 3 (f := .glo "look_at_rooms") rfl)
    h_look_at_rooms := c.def_ 3 (d := d12) rfl
    h_Chart__init := c.def_ 4 (d := d11_i) rfl
    m__law_cell_at := He.glo_ok X Gn (c.fact 5 (f := .glo "_law_cell_at") rfl)
    h__law_cell_at := c.def_ 5 (d := d32) rfl
    m__law_behind_event := He.glo_ok X Gn (c.fact 6 (f := .glo "_law_behind_event") rfl)
    h__law_behind_event := c.def_ 6 (d := d35) rfl
    m__law_first_met := He.glo_ok X Gn (c.fact 7 (f := .glo "_law_first_met") rfl)
    h__law_first_met := c.def_ 7 (d := d36) rfl
    m__law_row := He.glo_ok X Gn (c.fact 8 (f := .glo "_law_row") rfl)
    h__law_row := c.def_ 8 (d := d33) rfl
    m__law_two_halls := He.glo_ok X Gn (c.fact 9 (f := .glo "_law_two_halls") rfl)
    h__law_two_halls := c.def_ 9 (d := d34) rfl
    h_Clash__init := c.def_ 10 (d := d4_i) rfl
    h_Flat__init := c.def_ 11 (d := d29_i) rfl
    m_clash_of := He.glo_ok X Gn (c.fact 12 (f := .glo "clash_of") rfl)
    h_clash_of := c.def_ 12 (d := d23) rfl
    m_children := He.glo_ok X Gn (c.fact 13 (f := .glo "children") rfl)
    h_children := c.def_ 13 (d := d14) rfl
    m_chosen := He.glo_ok X Gn (c.fact 14 (f := .glo "chosen") rfl)
    h_chosen := c.def_ 14 (d := d18) rfl
    m_entered := He.glo_ok X Gn (c.fact 15 (f := .glo "entered") rfl)
    h_entered := c.def_ 15 (d := d19) rfl
    m_started := He.glo_ok X Gn (c.fact 16 (f := .glo "started") rfl)
    h_started := c.def_ 16 (d := d20) rfl
    m_gone := He.glo_ok X Gn (c.fact 17 (f := .glo "gone") rfl)
    h_gone := c.def_ 17 (d := d24) rfl
    m_remembered := He.glo_ok X Gn (c.fact 18 (f := .glo "remembered") rfl)
    h_remembered := c.def_ 18 (d := d25) rfl
    m_opened := He.glo_ok X Gn (c.fact 19 (f := .glo "opened") rfl)
    h_opened := c.def_ 19 (d := d21) rfl
    m_takeable := He.glo_ok X Gn (c.fact 20 (f := .glo "takeable") rfl)
    h_takeable := c.def_ 20 (d := d22) rfl
    m_stepped := He.glo_ok X Gn (c.fact 21 (f := .glo "stepped") rfl)
    h_stepped := c.def_ 21 (d := d26) rfl
    m_folded := He.glo_ok X Gn (c.fact 22 (f := .glo "folded") rfl)
    h_folded := c.def_ 22 (d := d30) rfl
    m_law := He.glo_ok X Gn (c.fact 23 (f := .glo "law") rfl)
    h_law := c.def_ 23 (d := d37) rfl
    f_len := He.free_ok X Gn (c.fact 24 (f := .free "len") rfl)
    f_range := He.free_ok X Gn (c.fact 25 (f := .free "range") rfl)
    f_isinstance := He.free_ok X Gn (c.fact 26 (f := .free "isinstance") rfl)
    f_list := He.free_ok X Gn (c.fact 27 (f := .free "list") rfl)
    f_tuple := He.free_ok X Gn (c.fact 28 (f := .free "tuple") rfl)
    f_sorted := He.free_ok X Gn (c.fact 29 (f := .free "sorted") rfl)
    f_int := He.free_ok X Gn (c.fact 30 (f := .free "int") rfl)
    f_bool := He.free_ok X Gn (c.fact 31 (f := .free "bool") rfl)
    f_ValueError := He.free_ok X Gn (c.fact 32 (f := .free "ValueError") rfl)
    i_ROOMS := He.int_ok X Gn (c.fact 33 (f := .int "ROOMS" 16) rfl)
    i_ARROWS := He.int_ok X Gn (c.fact 34 (f := .int "ARROWS" 20) rfl)
    i_EVENTS := He.int_ok X Gn (c.fact 35 (f := .int "EVENTS" 4) rfl)
    i_DEEDS := He.int_ok X Gn (c.fact 36 (f := .int "DEEDS" 100) rfl)
    i_KINDS := ⟨_, He.glo_ok X Gn (c.fact 37 (f := .glo "KINDS") rfl), He.tupB_ok (exf 0 rfl)⟩
    i_STATES := He.int_ok X Gn (c.fact 38 (f := .int "STATES" 30) rfl)
    x_BadChart := ⟨⟨_, He.glo_ok X Gn (c.fact 39 (f := .glo "BadChart") rfl), (He.exc_ok (c.fact 40 (f := .exc "BadChart") rfl)).1, (He.exc_ok (c.fact 40 (f := .exc "BadChart") rfl)).2.1, (He.exc_ok (c.fact 40 (f := .exc "BadChart") rfl)).2.2.1, (He.exc_ok (c.fact 40 (f := .exc "BadChart") rfl)).2.2.2⟩⟩
    x_TooMany := ⟨⟨_, He.glo_ok X Gn (c.fact 41 (f := .glo "TooMany") rfl), (He.exc_ok (c.fact 42 (f := .exc "TooMany") rfl)).1, (He.exc_ok (c.fact 42 (f := .exc "TooMany") rfl)).2.1, (He.exc_ok (c.fact 42 (f := .exc "TooMany") rfl)).2.2.1, (He.exc_ok (c.fact 42 (f := .exc "TooMany") rfl)).2.2.2⟩⟩
    g_Chart := He.glo_ok X Gn (c.fact 4 (f := .glo "Chart") rfl)
    c_Chart := ⟨(fun C hC => (Value.ref.inj (Option.some.inj ((He.glo_ok X Gn (c.fact 4 (f := .glo "Chart") rfl)).symm.trans hC))) ▸ He.cls_ok (c.fact 43 (f := .cls "Chart") rfl)), (fun C hC => (Value.ref.inj (Option.some.inj ((He.glo_ok X Gn (c.fact 4 (f := .glo "Chart") rfl)).symm.trans hC))) ▸ (by intro f hf; simp only [List.mem_cons, List.mem_nil_iff, or_false] at hf; rcases hf with rfl | rfl <;> first | exact He.noat_ok (c.fact 45 (f := .noat "Chart" "rooms") rfl) | exact He.noat_ok (c.fact 46 (f := .noat "Chart" "arrows") rfl)))⟩
    k_Chart := He.mkr_ok (c.fact 44 (f := .mkr "Chart") rfl)
    g_Flat := He.glo_ok X Gn (c.fact 11 (f := .glo "Flat") rfl)
    c_Flat := ⟨(fun C hC => (Value.ref.inj (Option.some.inj ((He.glo_ok X Gn (c.fact 11 (f := .glo "Flat") rfl)).symm.trans hC))) ▸ He.cls_ok (c.fact 47 (f := .cls "Flat") rfl)), (fun C hC => (Value.ref.inj (Option.some.inj ((He.glo_ok X Gn (c.fact 11 (f := .glo "Flat") rfl)).symm.trans hC))) ▸ (by intro f hf; simp only [List.mem_cons, List.mem_nil_iff, or_false] at hf; rcases hf with rfl | rfl | rfl <;> first | exact He.noat_ok (c.fact 49 (f := .noat "Flat" "states") rfl) | exact He.noat_ok (c.fact 50 (f := .noat "Flat" "rows") rfl) | exact He.noat_ok (c.fact 51 (f := .noat "Flat" "ways") rfl)))⟩
    k_Flat := He.mkr_ok (c.fact 48 (f := .mkr "Flat") rfl)
    n_Clash := nm_of (He.glo_ok X Gn (c.fact 10 (f := .glo "Clash") rfl)) (nm_y (He.glo_ok X Gn (c.fact 39 (f := .glo "BadChart") rfl)) (He.exm_ok (c.fact 52 (f := .exm "BadChart" "Clash" false) rfl))) (nm_y (He.glo_ok X Gn (c.fact 41 (f := .glo "TooMany") rfl)) (He.exm_ok (c.fact 53 (f := .exm "TooMany" "Clash" false) rfl))) (nm_y (He.glo_ok X Gn (c.fact 10 (f := .glo "Clash") rfl)) (He.exm_ok (c.fact 54 (f := .exm "Clash" "Clash" true) rfl)))
    n_TooMany := nm_of (He.glo_ok X Gn (c.fact 41 (f := .glo "TooMany") rfl)) (nm_y (He.glo_ok X Gn (c.fact 39 (f := .glo "BadChart") rfl)) (He.exm_ok (c.fact 55 (f := .exm "BadChart" "TooMany" false) rfl))) (nm_y (He.glo_ok X Gn (c.fact 41 (f := .glo "TooMany") rfl)) (He.exm_ok (c.fact 56 (f := .exm "TooMany" "TooMany" true) rfl))) (nm_y (He.glo_ok X Gn (c.fact 10 (f := .glo "Clash") rfl)) (He.exm_ok (c.fact 57 (f := .exm "Clash" "TooMany" false) rfl)))
    x_Clash := cl_of (c.def_ 10 (d := d4_i) rfl) (He.glo_ok X Gn (c.fact 10 (f := .glo "Clash") rfl)) (exf 1 rfl) sc_Clash__init (by decide +kernel) (fun _ _ _ _ _ _ us hl => match us, hl with | [_, _, _, _], _ => rfl) rfl
    xf_events := xfi_of (He.glo_ok X Gn (c.fact 10 (f := .glo "Clash") rfl)) (exf 2 rfl) (He.noat_ok (c.fact 58 (f := .noat "Clash" "events") rfl))
    xf_first := xfi_of (He.glo_ok X Gn (c.fact 10 (f := .glo "Clash") rfl)) (exf 2 rfl) (He.noat_ok (c.fact 59 (f := .noat "Clash" "first") rfl))
    xf_second := xfi_of (He.glo_ok X Gn (c.fact 10 (f := .glo "Clash") rfl)) (exf 2 rfl) (He.noat_ok (c.fact 60 (f := .noat "Clash" "second") rfl))
  }
end My
open PySem PySem.W PySem.Calls PyProof.Rows
theorem PySem.Challenge.cw_chartfold_k20_which_refusal_holds : PySem.Challenge.rw_chartfold_k20_which_refusal.Holds := by
  w_on; o_law
  refine HandSHeadRun.head_any (r := OpenLaw.row PySem.Challenge.rw_chartfold_k20_which_refusal) (q := view (OpenLaw.row PySem.Challenge.rw_chartfold_k20_which_refusal).prog [37]) (H := My.hk) (ob := My.ob) (M := 8000) (loose := My.loose) (d := HandSHeadRun.topDef (OpenLaw.row PySem.Challenge.rw_chartfold_k20_which_refusal).prog 37) (kwd := []) My.ob_eq
    (by kernel_rfl) (fun s => by kernel_rfl) My.run (by kernel_rfl) (by kernel_rfl) (by kernel_rfl) (by rfl) (by first | assumption | decide +kernel) (by decide +kernel) ⟨rfl, rfl, rfl, rfl, rfl, by decide +kernel⟩ ?hw ?hc
  case hw => w_witness2
  case hc =>
    refine DL.law_end (l := PySem.Challenge.rw_chartfold_k20_which_refusal) (k := 6) (dL := My.d37) rfl (by kernel_rfl) ⟨rfl, by decide, by decide⟩ My.sc_law rfl (fun _ _ _ _ _ _ us hl => match us, hl with | [_], _ => rfl) My.F_law_true fun w mg h Y Gn => by
      obtain ⟨K, KX, c, cx⟩ := Y
      exact ⟨K, KX, fun base => have T := My.facts (G := ⟨_, w, K, mg, base⟩) KX Gn c cx; ⟨T.h_law, T.m_law, My.w_law T⟩⟩
