import PyProof.Rows.All
import Wide.All
import OpenK.AllK
import Wide.FinOn
import HandS.ForMost
import HandS.TupAny
import HandS.IsInst
import HandS.Codes
import HandS.Text
import HandS.ExcOwn
import HandS.Flow
import HandS.Defaults
import HandS.Zip
import HandS.Style
import HandS.Words
import PySem.Challenge.RW_builtahead_k52_places_that_touch
import HandS.Head0
import HandS.Head1
import HandS.Head2
import HandS.HeadEnd
import HandS.HeadHook1
import HandS.HeadHook2
set_option Elab.async false
set_option linter.all false
set_option maxRecDepth 100000
set_option maxHeartbeats 0
namespace Bd
open PySem L2

inductive TyN where
  | none | bool | int | str | tuple | list | dict | set
  deriving DecidableEq
def TyN.name : TyN → String
  | .none => "NoneType"
  | .bool => "bool"
  | .int => "int"
  | .str => "str"
  | .tuple => "tuple"
  | .list => "list"
  | .dict => "dict"
  | .set => "set"
/-- pure values -/
inductive PV where
  | non | bl (b : Bool) | int (i : Int) | str (x : Str) | tup (xs : List PV) | lst (xs : List PV)
  | fn (x : Str) | ty (n : TyN) | scr (xs : List PV)
  deriving Inhabited

/-- what is fixed of the module -/
structure Gx where
  K : PySem.W.Frag
  mg : Str → Option Value

mutual
def Rep (g : Gx) (F : Hp) : PV → V → Prop
  | .non, v => v = .non
  | .bl b, v => v = .bl b
  | .int i, v => v = .int i
  | .str x, v => v = .str x
  | .tup xs, v => ∃ a vs, v = .ref a ∧ SqT g.K F a vs ∧ Reps g F xs vs
  | .lst xs, v => ∃ a vs, v = .ref a ∧ F a = some (.lst vs) ∧ Reps g F xs vs
  | .scr xs, v => ∃ a vs, v = .ref a ∧ SqL g.K F a vs ∧ Reps g F xs vs
  | .fn x, v => ∃ f, v = .ref f ∧ g.mg x = some (.ref f)
  | .ty n, v => v = .ty n.name
def Reps (g : Gx) (F : Hp) : List PV → List V → Prop
  | [], vs => vs = []
  | x :: xs, vs => ∃ v r, vs = v :: r ∧ Rep g F x v ∧ Reps g F xs r
end

theorem Same.tseq {K : PySem.W.Frag} {H H' : Hp} {a : Addr} {xs : List V} (e : Same H H') (h : SqT K H a xs) : SqT K H' a xs := by
  rcases h with (h | ⟨o, h⟩) | h
  · exact .inl (.inl (e _ _ h))
  · exact .inl (.inr ⟨o, e _ _ h⟩)
  · exact .inr h

mutual
theorem Rep.mono {g : Gx} {F F' : Hp} (e : Same F F') : ∀ (p : PV) {v : V}, Rep g F p v → Rep g F' p v
  | .non, _, h => h
  | .bl _, _, h => h
  | .int _, _, h => h
  | .str _, _, h => h
  | .fn _, _, h => h
  | .ty _, _, h => h
  | .tup xs, _, h => by
    obtain ⟨a, vs, e1, h1, h2⟩ := h
    exact ⟨a, vs, e1, Same.tseq e h1, Reps.mono e xs h2⟩
  | .lst xs, _, h => by
    obtain ⟨a, vs, e1, h1, h2⟩ := h
    exact ⟨a, vs, e1, e _ _ h1, Reps.mono e xs h2⟩
  | .scr xs, _, h => by
    obtain ⟨a, vs, e1, h1, h2⟩ := h
    exact ⟨a, vs, e1, Same.seq e h1, Reps.mono e xs h2⟩
theorem Reps.mono {g : Gx} {F F' : Hp} (e : Same F F') : ∀ (ps : List PV) {vs : List V}, Reps g F ps vs → Reps g F' ps vs
  | [], _, h => h
  | x :: xs, _, h => by
    obtain ⟨v, r, e1, h1, h2⟩ := h
    exact ⟨v, r, e1, Rep.mono e x h1, Reps.mono e xs h2⟩
end

section
variable {g : Gx} {F H : Hp}
theorem Reps.length : ∀ {ps : List PV} {vs : List V}, Reps g F ps vs → vs.length = ps.length
  | [], _, h => by cases h; rfl
  | x :: xs, _, h => by
    obtain ⟨v, r, rfl, _, h2⟩ := h
    simp [Reps.length h2]
theorem Reps.get : ∀ {ps : List PV} {vs : List V} {i : Nat} {p : PV}, Reps g F ps vs → ps[i]? = some p → ∃ v, vs[i]? = some v ∧ Rep g F p v
  | [], _, _, _, _, e => by simp at e
  | x :: xs, _, 0, p, h, e => by
    obtain ⟨v, r, rfl, h1, _⟩ := h
    simp at e; subst e
    exact ⟨v, rfl, h1⟩
  | x :: xs, _, i + 1, p, h, e => by
    obtain ⟨v, r, rfl, _, h2⟩ := h
    obtain ⟨w, e1, e2⟩ := Reps.get (i := i) h2 (by simpa using e)
    exact ⟨w, by simpa using e1, e2⟩
theorem Reps.get' : ∀ {ps : List PV} {vs : List V} {i : Nat} {v : V}, Reps g F ps vs → vs[i]? = some v → ∃ p, ps[i]? = some p ∧ Rep g F p v := fun {ps vs i v} h e => by
  have hl := h.length
  have hi : i < vs.length := (List.getElem?_eq_some_iff.mp e).1
  have hp : ps[i]? = some ps[i] := List.getElem?_eq_getElem (by omega)
  obtain ⟨w, e1, e2⟩ := h.get hp
  rw [e] at e1; cases e1
  exact ⟨_, hp, e2⟩
theorem Reps.append : ∀ {ps qs : List PV} {vs ws : List V}, Reps g F ps vs → Reps g F qs ws → Reps g F (ps ++ qs) (vs ++ ws)
  | [], _, _, _, h, h' => by cases h; exact h'
  | x :: xs, _, _, _, h, h' => by
    obtain ⟨v, r, rfl, h1, h2⟩ := h
    exact ⟨v, r ++ _, rfl, h1, Reps.append h2 h'⟩
theorem Reps.take : ∀ {ps : List PV} {vs : List V} (n : Nat), Reps g F ps vs → Reps g F (ps.take n) (vs.take n)
  | _, _, 0, _ => by simp [Reps]
  | [], _, n + 1, h => by cases h; rfl
  | x :: xs, _, n + 1, h => by
    obtain ⟨v, r, rfl, h1, h2⟩ := h
    exact ⟨v, r.take n, rfl, h1, Reps.take n h2⟩
theorem Reps.drop : ∀ {ps : List PV} {vs : List V} (n : Nat), Reps g F ps vs → Reps g F (ps.drop n) (vs.drop n)
  | _, _, 0, h => h
  | [], _, n + 1, h => by cases h; rfl
  | x :: xs, _, n + 1, h => by
    obtain ⟨v, r, rfl, h1, h2⟩ := h
    exact Reps.drop n h2
theorem Reps.set : ∀ {ps : List PV} {vs : List V} (n : Nat) {p : PV} {v : V}, Reps g F ps vs → Rep g F p v → Reps g F (ps.set n p) (vs.set n v)
  | [], _, n, p, v, h, _ => by cases h; rfl
  | x :: xs, _, 0, p, v, h, hp => by
    obtain ⟨v', r, rfl, h1, h2⟩ := h
    exact ⟨v, r, rfl, hp, h2⟩
  | x :: xs, _, n + 1, p, v, h, hp => by
    obtain ⟨v', r, rfl, h1, h2⟩ := h
    exact ⟨v', r.set n v, rfl, h1, Reps.set n h2 hp⟩
theorem Reps.nil : Reps g F [] [] := rfl
theorem Reps.cons {p : PV} {ps : List PV} {v : V} {vs : List V} (h1 : Rep g F p v) (h2 : Reps g F ps vs) : Reps g F (p :: ps) (v :: vs) := ⟨v, vs, rfl, h1, h2⟩
theorem Reps.snoc {p : PV} {ps : List PV} {v : V} {vs : List V} (h2 : Reps g F ps vs) (h1 : Rep g F p v) : Reps g F (ps ++ [p]) (vs ++ [v]) := h2.append (.cons h1 .nil)
end

/-! ### slots -/
inductive Fl where
  | fz | own | bor
  deriving DecidableEq
abbrev En := List (Option (PV × Fl))

/-- an object that may be changed, by its value; what lies in it is fixed -/
def OwnR (g : Gx) (F H : Hp) : PV → Addr → Prop
  | .lst xs, a => ∃ vs, H a = some (.lst vs) ∧ Reps g F xs vs
  | _, _ => False
theorem OwnR.here {g : Gx} {F H : Hp} {p : PV} {a : Addr} (h : OwnR g F H p a) : ∃ o, H a = some o := by
  cases p <;> first | exact h.elim | (obtain ⟨vs, e, _⟩ := h; exact ⟨_, e⟩)
theorem OwnR.mono {g : Gx} {F F' H H' : Hp} {p : PV} {a : Addr} (h : OwnR g F H p a) (e : Same F F') (k : ∀ o, H a = some o → H' a = some o) : OwnR g F' H' p a := by
  cases p with
  | lst xs => obtain ⟨vs, e1, h1⟩ := h; exact ⟨vs, k _ e1, Reps.mono e _ h1⟩
  | _ => exact h.elim
/-- what a fixed copy of it is -/
theorem OwnR.rep {g : Gx} {F H : Hp} {p : PV} {a : Addr} (h : OwnR g F H p a) {o : HO} (e : H a = some o) (n : F a = none) : Rep g (upd F a o) p (.ref a) := by
  have sm : Same F (upd F a o) := fun b x q => by rw [upd_ne (ne_of_none q n)]; exact q
  cases p with
  | lst xs =>
    obtain ⟨vs, e1, h1⟩ := h
    rw [e] at e1; cases e1
    exact ⟨a, vs, rfl, upd_same, Reps.mono sm _ h1⟩
  | _ => exact h.elim

/-- an entry: what was fixed, what stood, what may be changed, what may be fixed -/
structure Ent where
  F : Hp
  H : Hp
  M : Addr → Prop
  Z : Addr → Prop
  S0 : L2.St
  B : Nat → Prop

structure Sx (g : Gx) (G : Ent) (env : En) (σ : St) (F H : Hp) : Prop where
  sub : Same F H
  f0 : Same G.F F
  h0 : ∀ a o, G.H a = some o → ¬ G.M a → H a = some o
  nf : ∀ a o, G.H a = some o → G.F a = none → ¬ G.Z a → F a = none
  th : ∀ a o, G.H a = some o → ∃ o', H a = some o'
  len : env.length = σ.length
  fz : ∀ (i : Nat) pv, env[i]? = some (some (pv, .fz)) → ∃ v, σ[i]? = some (some v) ∧ Rep g F pv v
  own : ∀ (i : Nat) pv fl, env[i]? = some (some (pv, fl)) → fl ≠ .fz → ∃ a, σ[i]? = some (some (.ref a)) ∧ F a = none ∧ OwnR g F H pv a ∧ (G.M a ∨ G.H a = none) ∧ (fl = .own → G.Z a ∨ G.H a = none)
  inj : ∀ (i j : Nat) p q a, env[i]? = some (some p) → p.2 ≠ .fz → env[j]? = some (some q) → q.2 ≠ .fz → σ[i]? = some (some (.ref a)) → σ[j]? = some (some (.ref a)) → i = j
  bo : ∀ (i : Nat) pv, env[i]? = some (some (pv, .bor)) → G.B i ∧ σ[i]? = G.S0[i]?

/-- an address that no slot owns -/
def Apart (env : En) (σ : St) (a : Addr) : Prop := ∀ (i : Nat) p, env[i]? = some (some p) → p.2 ≠ .fz → σ[i]? ≠ some (some (.ref a))

/-- what an expression hands on -/
def VR (g : Gx) (G : Ent) (env : En) (σ : St) (F H : Hp) (r : PV × Fl) (v : V) : Prop :=
  match r.2 with
  | .fz => Rep g F r.1 v
  | .own => ∃ a, v = .ref a ∧ F a = none ∧ OwnR g F H r.1 a ∧ G.H a = none ∧ Apart env σ a
  | .bor => False

section
variable {g : Gx} {G : Ent} {env : En} {σ : St} {F H F' H' : Hp}

theorem same_upd {a : Addr} {o : HO} (n : F a = none) : Same F (upd F a o) := fun b x q => by rw [upd_ne (ne_of_none q n)]; exact q

/-- an object that no slot owns is fixed -/
theorem Sx.freeze (S : Sx g G env σ F H) {a : Addr} {o : HO} (e : H a = some o) (n : F a = none) (z : G.H a = none ∨ G.Z a) (ap : Apart env σ a) : Sx g G env σ (upd F a o) H := by
  have sm : Same F (upd F a o) := same_upd n
  refine ⟨fun b x q => ?_, S.f0.trans sm, S.h0, fun b x h1 h2 h3 => ?_, S.th, S.len, fun i pv h => ?_, fun i pv fl h hf => ?_, S.inj, S.bo⟩
  · by_cases hb : b = a
    · subst hb; rw [upd_same] at q; cases q; exact e
    · rw [upd_ne hb] at q; exact S.sub b x q
  · have hb : b ≠ a := by
      rintro rfl
      rcases z with z | z
      · rw [h1] at z; cases z
      · exact h3 z
    rw [upd_ne hb]; exact S.nf b x h1 h2 h3
  · obtain ⟨v, e1, r⟩ := S.fz i pv h
    exact ⟨v, e1, r.mono sm⟩
  · obtain ⟨b, e1, e2, e3, e4, e5⟩ := S.own i pv fl h hf
    have hb : b ≠ a := by rintro rfl; exact ap i _ h hf e1
    exact ⟨b, e1, by rw [upd_ne hb]; exact e2, e3.mono sm fun _ q => q, e4, e5⟩

/-- heap and fixed part grow -/
theorem Sx.grow (S : Sx g G env σ F H) (sF : Same F F') (sH : Same H H') (sub : Same F' H') (nf : ∀ a o, H a = some o → F a = none → F' a = none) : Sx g G env σ F' H' := by
  refine ⟨sub, S.f0.trans sF, fun a o h1 h2 => sH a o (S.h0 a o h1 h2), fun a o h1 h2 h3 => ?_, fun a o h1 => ?_, S.len, fun i pv h => ?_, fun i pv fl h hf => ?_, S.inj, S.bo⟩
  · obtain ⟨x, q⟩ := S.th a o h1
    exact nf a x q (S.nf a o h1 h2 h3)
  · obtain ⟨x, q⟩ := S.th a o h1
    exact ⟨x, sH a x q⟩
  · obtain ⟨v, e1, r⟩ := S.fz i pv h
    exact ⟨v, e1, r.mono sF⟩
  · obtain ⟨b, e1, e2, e3, e4, e5⟩ := S.own i pv fl h hf
    obtain ⟨o, eo⟩ := e3.here
    exact ⟨b, e1, nf b o eo e2, e3.mono sF fun o q => sH b o q, e4, e5⟩
end
end Bd

namespace Bd
open PySem L2

/-! ### operations on pure values -/
mutual
def plainP : PV → Bool
  | .fn _ => false
  | .ty _ => false
  | .tup xs => plainPs xs
  | .lst xs => plainPs xs
  | .scr _ => false
  | _ => true
def plainPs : List PV → Bool
  | [] => true
  | x :: xs => plainP x && plainPs xs
end
mutual
def depP : PV → Nat
  | .tup xs => depPs xs + 1
  | .lst xs => depPs xs + 1
  | _ => 0
def depPs : List PV → Nat
  | [] => 0
  | x :: xs => max (depP x) (depPs xs)
end
mutual
def eqP : PV → PV → Bool
  | .non, .non => true
  | .bl a, .bl b => a == b
  | .bl a, .int j => (if a then 1 else 0) == j
  | .int i, .bl b => i == (if b then 1 else 0)
  | .int i, .int j => i == j
  | .str x, .str y => x == y
  | .lst xs, .lst ys => eqPs xs ys
  | .tup xs, .tup ys => eqPs xs ys
  | _, _ => false
def eqPs : List PV → List PV → Bool
  | [], [] => true
  | x :: xs, y :: ys => eqP x y && eqPs xs ys
  | _, _ => false
end
def cmpOk (p q : PV) : Bool := plainP p && plainP q && decide (min (depP p) (depP q) ≤ 60)

/-- less, by Python's comparison -/
def ltP : PV → PV → Option Bool
  | .int i, .int j => some (decide (i < j))
  | .str x, .str y => some (decide (x.cps.toList < y.cps.toList))
  | _, _ => none

def truth : PV → Option Bool
  | .non => some false
  | .bl b => some b
  | .int i => some (i != 0)
  | .str x => if x.length ≤ sizeLine then some ((x.length : Int) != 0) else none
  | .tup xs => some (!xs.isEmpty)
  | .lst xs => some (!xs.isEmpty)
  | _ => none

def smallI (i : Int) : Bool := decide (-(2 ^ 64) < i) && decide (i < 2 ^ 64)
def powOk (i j : Int) : Bool := decide (0 ≤ j) && decide (j ≤ 1000000) && decide (i.natAbs < 2 ^ 64)

def binP : Operator → PV → PV → Option PV
  | .Add, .int i, .int j => some (.int (i + j))
  | .Add, .str x, .str y => if x.length + y.length ≤ sizeLine then some (.str (x ++ y)) else none
  | .Add, .lst xs, .lst ys => if xs.length + ys.length ≤ sizeLine then some (.lst (xs ++ ys)) else none
  | .Add, .tup xs, .tup ys => if xs.length + ys.length ≤ sizeLine then some (.tup (xs ++ ys)) else none
  | .Sub, .int i, .int j => some (.int (i - j))
  | .Mult, .int i, .int j => if smallI i || smallI j then some (.int (i * j)) else none
  | .FloorDiv, .int i, .int j => if 0 < j ∧ j < 1073741824 then some (.int (i / j)) else none
  | .Mod, .int i, .int j => if 0 < j then some (.int (i % j)) else none
  | .Pow, .int i, .int j => if powOk i j then some (.int (i ^ j.toNat)) else none
  | .LShift, .int i, .int j => if powOk i j then some (.int (i * 2 ^ j.toNat)) else none
  | .RShift, .int i, .int j => if 0 ≤ j then some (.int (i / 2 ^ j.toNat)) else none
  | _, _, _ => none

def unP : UnaryOp → PV → Option PV
  | .USub, .int i => some (.int (-i))
  | _, _ => none

def isNonP : PV → Bool
  | .non => true
  | _ => false

def anyEq (q : PV) : List PV → Bool
  | [] => false
  | x :: xs => eqP x q || anyEq q xs

/-- a text of one sign -/
def sign1 (x : Str) : Option Nat := match x.cps.toList with
  | [c] => some c
  | _ => none
def signP : PV → Option Nat
  | .str x => sign1 x
  | _ => none
def inP (p : PV) : PV → Option Bool
  | .lst xs => if cmpOk p p && plainPs xs && decide (min (depP p) (depPs xs) ≤ 59) then some (anyEq p xs) else none
  | .tup xs => if cmpOk p p && plainPs xs && decide (min (depP p) (depPs xs) ≤ 59) then some (anyEq p xs) else none
  | .str y => (signP p).map fun c => decide (c ∈ y.cps.toList)
  | _ => none

def cmpP : CmpOp → PV → PV → Option Bool
  | .Eq, p, q => if cmpOk p q then some (eqP p q) else none
  | .NotEq, p, q => if cmpOk p q then some (!eqP p q) else none
  | .Lt, p, q => ltP p q
  | .Gt, p, q => ltP q p
  | .LtE, .int i, .int j => some (decide (i ≤ j))
  | .GtE, .int i, .int j => some (decide (j ≤ i))
  | .LtE, .str x, .str y => some (!decide (y.cps.toList < x.cps.toList))
  | .GtE, .str x, .str y => some (!decide (x.cps.toList < y.cps.toList))
  | .Is, p, .non => some (isNonP p)
  | .IsNot, p, .non => some (!isNonP p)
  | .In, p, q => inP p q
  | .NotIn, p, q => (inP p q).map (!·)
  | _, _, _ => none

def ixP : PV → PV → Option PV
  | .lst xs, .int i => atI xs i
  | .tup xs, .int i => atI xs i
  | .str z, .int i => if z.length ≤ sizeLine then (atI z.cps.toList i).map (fun c => .str ⟨#[c]⟩) else none
  | _, _ => none

def cutP (xs : List PV) (lo hi : Option Int) : List PV := (xs.drop (HT.sIx xs.length 0 lo)).take (HT.sIx xs.length xs.length hi - HT.sIx xs.length 0 lo)
def slP : PV → Option Int → Option Int → Option PV
  | .lst xs, lo, hi => some (.lst (cutP xs lo hi))
  | .scr xs, lo, hi => some (.lst (cutP xs lo hi))
  | .tup xs, lo, hi => some (.tup (cutP xs lo hi))
  | .str z, lo, hi => if z.length ≤ sizeLine then some (.str (cutS z lo hi)) else none
  | _, _, _ => none

def tyName : PV → Option TyN
  | .non => some .none
  | .bl _ => some .bool
  | .int _ => some .int
  | .str _ => some .str
  | .tup _ => some .tuple
  | .lst _ => some .list
  | _ => none
/-- is a thing of the type T one of the type c? -/
def isSub (T c : TyN) : Bool := decide (T = c) || (decide (T = .bool) && decide (c = .int))
def isiAny (T : TyN) : List PV → Option Bool
  | [] => some false
  | .ty c :: r => (isiAny T r).map (isSub T c || ·)
  | _ => none
def isiP (p : PV) : PV → Option Bool
  | .ty c => (tyName p).map fun T => isSub T c
  | .tup xs => (tyName p).bind fun T => isiAny T xs
  | _ => none

def allInts : List PV → Option (List Int)
  | [] => some []
  | .int i :: r => (allInts r).map (i :: ·)
  | _ => none
def allStrs : List PV → Option (List Str)
  | [] => some []
  | .str i :: r => (allStrs r).map (i :: ·)
  | _ => none
def allBls : List PV → Option (List Bool)
  | [] => some []
  | .bl i :: r => (allBls r).map (i :: ·)
  | _ => none
def seqOf : PV → Option (List PV)
  | .lst xs => some xs
  | .tup xs => some xs
  | _ => none

inductive Blt where
  | len | abs | max | min | int | str | all | any | list | tuple | isinstance | sum | sorted | set | dict
  deriving DecidableEq
def Blt.name : Blt → Str
  | .len => "len"
  | .abs => "abs"
  | .max => "max"
  | .min => "min"
  | .int => "int"
  | .str => "str"
  | .all => "all"
  | .any => "any"
  | .list => "list"
  | .tuple => "tuple"
  | .isinstance => "isinstance"
  | .sum => "sum"
  | .sorted => "sorted"
  | .set => "set"
  | .dict => "dict"
/-- a built-in function -/
def bltP : Blt → List PV → Option PV
  | .len, [.lst xs] => some (.int xs.length)
  | .len, [.tup xs] => some (.int xs.length)
  | .len, [.str x] => if x.length ≤ sizeLine then some (.int x.length) else none
  | .abs, [.int i] => some (.int (if i < 0 then -i else i))
  | .max, [.int i, .int j] => some (.int (if j > i then j else i))
  | .min, [.int i, .int j] => some (.int (if j < i then j else i))
  | .int, [.int i] => some (.int i)
  | .int, [.bl b] => some (.int (if b then 1 else 0))
  | .int, [.str a] => if a.length ≤ 640 then (PySem.intText? a).map .int else none
  | .str, [.int i] => if i.natAbs.log2 < 1920 then some (.str (toString i)) else none
  | .all, [.lst xs] => (allBls xs).map fun bs => .bl (bs.all id)
  | .any, [.lst xs] => (allBls xs).map fun bs => .bl (bs.any id)
  | .sum, [.lst xs] => (allInts xs).map fun ns => .int ns.sum
  | .list, [p] => (seqOf p).map .lst
  | .tuple, [p] => (seqOf p).map .tup
  | .isinstance, [p, q] => (isiP p q).map .bl
  | _, _ => none

inductive Mth where
  | split | join | append | index | count | replace
  deriving DecidableEq
def Mth.name : Mth → Str
  | .split => "split"
  | .join => "join"
  | .append => "append"
  | .index => "index"
  | .count => "count"
  | .replace => "replace"
/-- of which kind the thing is whose method it is -/
def kindO : Mth → Option PV → Bool
  | .split, some (.str _) => true
  | .join, some (.str _) => true
  | .replace, some (.str _) => true
  | .index, some (.lst _) => true
  | .count, some (.lst _) => true
  | _, _ => false
def mthP : Mth → PV → List PV → Option PV
  | .split, .str a, [.str b] => if b.length = 0 ∨ sizeLine < a.length + 2 then none else some (.lst ((Txt.split a b).map .str))
  | .join, .str a, [p] => (seqOf p).bind fun xs => (allStrs xs).bind fun ys =>
      if (ys.map (·.length)).sum + ys.length * a.length ≤ 16777216 then some (.str (Txt.join a ys)) else none
  | _, _, _ => none

/-! ### the small language -/
/-- slots that a comprehension or a for stores in -/
inductive IG where
  | nm (i : Nat)
  | tup (is : List Nat)

inductive IE where
  | var (i : Nat)
  | int (i : Int) | str (x : Str) | bl (b : Bool) | non
  | cst (x : Str)
  | fnv (x : Str)
  | tyv (t : TyN)
  | bin (op : Operator) (a b : IE)
  | un (op : UnaryOp) (a : IE)
  | not (a : IE)
  | cmp (op : CmpOp) (a b : IE)
  | chn (op op' : CmpOp) (a b c : IE)
  | and (a b : IE) | or (a b : IE)
  | ife (c a b : IE)
  | tup (as : IE) | lst (as : IE)
  | nil | cons (a r : IE)
  | sub (a b : IE)
  | no
  | slc (a lo hi : IE)
  | call (f : Str) (as : IE)
  | callk (f : Str) (n : Nat) (ks : List Str) (ap ak : IE)
  | blt (f : Blt) (as : IE)
  | mth (m : Mth) (o : IE) (as : IE)
  | comp (own : List Nat) (g : IG) (it : IE) (cond : IE) (elt : IE)
  | rng (as : IE) | enm (a : IE) | zip (a b : IE) | seq (a : IE)
  deriving Inhabited

structure PX where
  cls : Str
  flds : List (Str × PV)

inductive Out (α : Type) where
  | ok (a : α) (e : En)
  | exc (x : PX) (e : En)
  | bad
def Out.bind {α β : Type} (m : Out α) (k : α → En → Out β) : Out β :=
  match m with
  | .ok a e => k a e
  | .exc x e => .exc x e
  | .bad => .bad
/-- an operand: a value, or a slot that is read when the operation is done -/
inductive Opd where
  | val (p : PV)
  | slot (i : Nat)
def rsO (e : En) : Opd → Option PV
  | .val p => some p
  | .slot i => match e[i]? with
    | some (some (p, _)) => some p
    | _ => none
def rsOs (e : En) : List Opd → Option (List PV)
  | [] => some []
  | o :: r => (rsO e o).bind fun p => (rsOs e r).map (p :: ·)

/-- a fresh list may still be changed -/
def flOf : PV → Fl
  | .lst _ => .own
  | _ => .fz
def liftO (o : Option PV) (e : En) : Out (PV × Fl) :=
  match o with
  | some p => .ok (p, flOf p) e
  | none => .bad
def liftB (o : Option Bool) (e : En) : Out Bool :=
  match o with
  | some p => .ok p e
  | none => .bad

/-- what a call hands back: the value, and what the lists that it may change are then -/
inductive CRes where
  | ok (r : PV × Fl) (outs : List PV)
  | exc (x : PX) (outs : List PV)
  | bad
/-- a callee: which parameters it may change, and what it does -/
structure Cal where
  cst : Str → Option PV
  sig : Str → Option (List Bool)
  run : Str → List PV → CRes
  kw : Str → Nat → List Str → Option (List Nat)
/-- what is at these places -/
def pick {α : Type} (l : List α) : List Nat → List α
  | [] => []
  | i :: r => match l[i]? with
    | some x => x :: pick l r
    | none => pick l r

inductive Arg where
  | val (p : PV)
  | slot (i : Nat)
  | tmp (p : PV)
def argV (e : En) : Arg → Option PV
  | .val p => some p
  | .tmp p => some p
  | .slot i => match e[i]? with
    | some (some (p, .own)) => some p
    | some (some (p, .bor)) => some p
    | _ => none
def isNil : IE → Bool
  | .nil => true
  | _ => false
def argVs (e : En) : List Arg → Option (List PV)
  | [] => some []
  | a :: r => (argV e a).bind fun p => (argVs e r).map (p :: ·)
/-- a slot's value is another one -/
def setP (e : En) (i : Nat) (p : PV) : En := match e[i]? with
  | some (some (_, fl)) => e.set i (some (p, fl))
  | _ => e
/-- the slots that were handed in, as they are behind the call -/
def argBack : List Arg → List PV → En → En
  | .slot i :: r, p :: ps, e => argBack r ps (setP e i p)
  | .tmp _ :: r, _ :: ps, e => argBack r ps e
  | .val _ :: r, ps, e => argBack r ps e
  | _, _, e => e
def slotsOf : List Arg → List Nat
  | [] => []
  | .slot i :: r => i :: slotsOf r
  | _ :: r => slotsOf r

def setG : IG → PV → En → Option En
  | .nm i, p, e => some (e.set i (some (p, .fz)))
  | .tup is, p, e => match p with
    | .tup xs => if is.length = xs.length then some ((is.zip xs).foldl (fun e q => e.set q.1 (some (q.2, .fz))) e) else none
    | .lst xs => if is.length = xs.length then some ((is.zip xs).foldl (fun e q => e.set q.1 (some (q.2, .fz))) e) else none
    | _ => none

def rngItems (lo hi : Int) : List PV := (List.range (hi - lo).toNat).map fun (k : Nat) => PV.int (lo + (k : Int))
def rngP : List PV → Option (List PV)
  | [.int j] => if -(2 ^ 62) ≤ j ∧ j < 2 ^ 62 then some (rngItems 0 j) else none
  | [.int i, .int j] => if -(2 ^ 62) ≤ i ∧ i < 2 ^ 62 ∧ -(2 ^ 62) ≤ j ∧ j < 2 ^ 62 then some (rngItems i j) else none
  | _ => none
def enmItems : Nat → List PV → List PV
  | _, [] => []
  | n, x :: r => .tup [.int n, x] :: enmItems (n + 1) r
def zipItems : List PV → List PV → List PV
  | x :: xs, y :: ys => .tup [x, y] :: zipItems xs ys
  | _, _ => []
/-- two things that are walked side by side: of one kind -/
def zipP : PV → PV → Option (List PV)
  | .lst xs, .lst ys => some (zipItems xs ys)
  | .tup xs, .tup ys => some (zipItems xs ys)
  | _, _ => none
def itemsP : PV → Option (List PV)
  | .lst xs => some xs
  | .tup xs => some xs
  | .str z => some (z.cps.toList.map fun c => .str ⟨#[c]⟩)
  | _ => none

def consO : Option PV → List PV → List PV
  | some y, ys => y :: ys
  | none, ys => ys
/-- the turns of a comprehension -/
def compLoop (f : PV → En → Out (Option PV)) : List PV → En → Out (List PV)
  | [], e => .ok [] e
  | x :: r, e => (f x e).bind fun y e1 => (compLoop f r e1).bind fun ys e2 => .ok (consO y ys) e2
def wipeE (e : En) : List Nat → En
  | [] => e
  | i :: r => (wipeE e r).set i none
/-- the slots own of e come back -/
def unwipe (e0 : En) : List Nat → En → En
  | [], e => e
  | i :: r, e => (unwipe e0 r e).set i (match e0[i]? with
    | some x => x
    | none => none)

def frzE (m : Out (PV × Fl)) : Out PV := m.bind fun r e => .ok r.1 e

/-- what an expression gives: as a value, as a test -/
abbrev EvR := (En → Out (PV × Fl)) × (En → Out Bool)
/-- a value whose test is its truth -/
def vt (v : En → Out (PV × Fl)) : EvR := (v, fun e => (v e).bind fun r e1 => liftB (truth r.1) e1)
/-- a test whose value is a bool -/
def tv (t : En → Out Bool) : EvR := (fun e => (t e).bind fun b e1 => .ok (.bl b, .fz) e1, t)
/-- an operand: a slot is read later -/
def opd (a : IE) (v : En → Out (PV × Fl)) (e : En) : Out Opd :=
  match a with
  | .var i => (match e[i]? with
    | some (some _) => .ok (.slot i) e
    | _ => .bad)
  | _ => (v e).bind fun r e1 => .ok (.val r.1) e1
/-- a bound of a slice -/
def part (a : IE) (v : En → Out (PV × Fl)) (e : En) : Out (Option Int) :=
  match a with
  | .no => .ok none e
  | _ => (opd a v e).bind fun x e1 => match rsO e1 x with
    | some (.int i) => .ok (some i) e1
    | _ => .bad
def evVar (i : Nat) (e : En) : Out (PV × Fl) :=
  match e[i]? with
  | some (some (p, .fz)) => .ok (p, .fz) e
  | some (some (p, .own)) => .ok (p, .fz) (e.set i (some (p, .fz)))
  | _ => .bad
def tsVar (i : Nat) (e : En) : Out Bool :=
  match e[i]? with
  | some (some (p, _)) => liftB (truth p) e
  | _ => .bad
def cmp2 (op : CmpOp) (x y : Opd) (e : En) : Out Bool := liftB ((rsO e x).bind fun p => (rsO e y).bind fun q => cmpP op p q) e
def okIf (k : Bool) (r : PV × Fl) (e : En) : Out (PV × Fl) := if k then .ok r e else .bad
def fzO (o : Option PV) (e : En) : Out (PV × Fl) :=
  match o with
  | some p => .ok (p, .fz) e
  | none => .bad
def doCall (C : Cal) (f : Str) (gs : List Arg) (e : En) : Out (PV × Fl) :=
  match argVs e gs with
  | none => .bad
  | some ps => if (slotsOf gs).Nodup then (match C.run f ps with
    | .ok r outs => .ok r (argBack gs outs e)
    | .exc x outs => .exc x (argBack gs outs e)
    | .bad => .bad) else .bad
def kwCall (C : Cal) (f : Str) (sg : List Bool) (n : Nat) (ks : List Str) (pm : List Nat) (us ws : List PV) (e : En) : Out (PV × Fl) :=
  if sg = (pick (us ++ ws) pm).map (fun _ => false) ∧ us.length = n ∧ ws.length = ks.length then doCall C f ((pick (us ++ ws) pm).map .val) e else .bad
/-- the comprehension's own slots hold nothing that may be changed -/
def ownFz (own : List Nat) (e : En) : Bool := own.all fun i => match e[i]? with
  | some (some (_, .fz)) => true
  | some none => true
  | _ => false
def compEnd (own : List Nat) (e1 : En) (m : Out (List PV)) : Out (PV × Fl) :=
  match m with
  | .ok ys e2 => if ys.length ≤ sizeLine then .ok (.lst ys, .own) (unwipe e1 own e2) else .bad
  | _ => .bad
def compTurnE (own : List Nat) (g : IG) (cond : En → Out Bool) (elt : En → Out (PV × Fl)) (x : PV) (e : En) : Out (Option PV) :=
  match setG g x e with
  | none => .bad
  | some e3 => (cond e3).bind fun k e4 => if k then (elt e4).bind fun p e5 => .ok (some p.1) (wipeE e5 own) else .ok none (wipeE e4 own)
def enmP : PV → Option PV
  | .lst xs => some (.lst (enmItems 0 xs))
  | _ => none

mutual
def ev (C : Cal) : IE → EvR
  | .var i => (evVar i, tsVar i)
  | .int i => vt fun e => .ok (.int i, .fz) e
  | .str x => vt fun e => .ok (.str x, .fz) e
  | .bl b => vt fun e => .ok (.bl b, .fz) e
  | .non => vt fun e => .ok (.non, .fz) e
  | .cst x => vt fun e => fzO (C.cst x) e
  | .fnv x => vt fun e => okIf (C.sig x).isSome (.fn x, .fz) e
  | .tyv t => vt fun e => .ok (.ty t, .fz) e
  | .bin op a b => vt fun e => (opd a (ev C a).1 e).bind fun x e1 => (opd b (ev C b).1 e1).bind fun y e2 => liftO ((rsO e2 x).bind fun p => (rsO e2 y).bind fun q => binP op p q) e2
  | .un op a => vt fun e => (opd a (ev C a).1 e).bind fun x e1 => liftO ((rsO e1 x).bind fun p => unP op p) e1
  | .not a => (fun e => (opd a (ev C a).1 e).bind fun x e1 => (liftB ((rsO e1 x).bind truth) e1).bind fun b e2 => .ok (.bl (!b), .fz) e2,
    fun e => ((ev C a).2 e).bind fun b e1 => .ok (!b) e1)
  | .cmp op a b => tv fun e => (opd a (ev C a).1 e).bind fun x e1 => (opd b (ev C b).1 e1).bind fun y e2 => cmp2 op x y e2
  | .chn op op' a b c => tv fun e => (opd a (ev C a).1 e).bind fun x e1 => (opd b (ev C b).1 e1).bind fun y e2 => (cmp2 op x y e2).bind fun k e3 =>
      if k then (opd c (ev C c).1 e3).bind fun z e4 => cmp2 op' y z e4 else .ok false e3
  | .and a b => (fun e => ((ev C a).1 e).bind fun r e1 => match truth r.1 with
      | some true => (ev C b).1 e1
      | some false => .ok r e1
      | none => .bad,
    fun e => ((ev C a).2 e).bind fun k e1 => if k then (ev C b).2 e1 else .ok false e1)
  | .or a b => (fun e => ((ev C a).1 e).bind fun r e1 => match truth r.1 with
      | some false => (ev C b).1 e1
      | some true => .ok r e1
      | none => .bad,
    fun e => ((ev C a).2 e).bind fun k e1 => if k then .ok true e1 else (ev C b).2 e1)
  | .ife c a b => (fun e => ((ev C c).2 e).bind fun k e1 => if k then (ev C a).1 e1 else (ev C b).1 e1,
    fun e => ((ev C c).2 e).bind fun k e1 => if k then (ev C a).2 e1 else (ev C b).2 e1)
  | .tup as => vt fun e => (evF C as e).bind fun ps e1 => okIf (decide (ps.length ≤ sizeLine)) (.tup ps, .fz) e1
  | .lst as => vt fun e => (evF C as e).bind fun ps e1 => okIf (decide (ps.length ≤ sizeLine)) (.lst ps, .own) e1
  | .sub a b => vt fun e => (opd a (ev C a).1 e).bind fun x e1 => (opd b (ev C b).1 e1).bind fun y e2 => fzO ((rsO e2 x).bind fun p => (rsO e2 y).bind fun q => ixP p q) e2
  | .slc a lo hi => vt fun e => (opd a (ev C a).1 e).bind fun x e1 => (part lo (ev C lo).1 e1).bind fun l e2 => (part hi (ev C hi).1 e2).bind fun h e3 => liftO ((rsO e3 x).bind fun p => slP p l h) e3
  | .call f as => vt fun e => match C.sig f with
    | none => .bad
    | some sg => (evArg C as sg e).bind fun gs e1 => doCall C f gs e1
  | .callk f n ks ap ak => vt fun e => match C.sig f, C.kw f n ks with
    | some sg, some pm => (evF C ap e).bind fun us e1 => (evF C ak e1).bind fun ws e2 => kwCall C f sg n ks pm us ws e2
    | _, _ => .bad
  | .blt f as => vt fun e => (evOs C as e).bind fun os e1 => liftO ((rsOs e1 os).bind fun ps => bltP f ps) e1
  | .mth m o as => vt fun e => (opd o (ev C o).1 e).bind fun x e1 => if kindO m (rsO e1 x) then (evOs C as e1).bind fun os e2 => liftO ((rsO e2 x).bind fun p => (rsOs e2 os).bind fun ps => mthP m p ps) e2 else .bad
  | .comp own g it cond elt => vt fun e => ((ev C it).1 e).bind fun r e1 => match itemsP r.1 with
    | none => .bad
    | some xs => if ownFz own e1 then compEnd own e1 (compLoop (compTurnE own g (ev C cond).2 (ev C elt).1) xs (wipeE e1 own)) else .bad
  | .rng as => vt fun e => (evOs C as e).bind fun os e1 => fzO ((rsOs e1 os).bind fun ps => (rngP ps).map .lst) e1
  | .enm a => vt fun e => ((ev C a).1 e).bind fun r e1 => fzO (enmP r.1) e1
  | .zip a b => vt fun e => ((ev C a).1 e).bind fun r e1 => ((ev C b).1 e1).bind fun q e2 => fzO ((zipP r.1 q.1).map .lst) e2
  | .seq a => ev C a
  | .no => (fun _ => .bad, fun e => .ok true e)
  | .nil => (fun _ => .bad, fun _ => .bad)
  | .cons _ _ => (fun _ => .bad, fun _ => .bad)
/-- operands -/
def evOs (C : Cal) : IE → En → Out (List Opd)
  | .nil, e => .ok [] e
  | .cons a r, e => (opd a (ev C a).1 e).bind fun x e1 => (evOs C r e1).bind fun xs e2 => .ok (x :: xs) e2
  | _, _ => .bad
/-- items of a display: fixed values -/
def evF (C : Cal) : IE → En → Out (List PV)
  | .nil, e => .ok [] e
  | .cons a r, e => ((ev C a).1 e).bind fun x e1 => (evF C r e1).bind fun xs e2 => .ok (x.1 :: xs) e2
  | _, _ => .bad
/-- the arguments of a call -/
def evArg (C : Cal) : IE → List Bool → En → Out (List Arg)
  | .nil, sg, e => if sg.isEmpty then .ok [] e else .bad
  | .cons a r, sg, e => match sg with
    | [] => .bad
    | false :: sg => ((ev C a).1 e).bind fun x e1 => (evArg C r sg e1).bind fun xs e2 => .ok (.val x.1 :: xs) e2
    | true :: sg => match a with
      | .var i => (match e[i]? with
        | some (some (_, .fz)) => .bad
        | some (some (_, _)) => (evArg C r sg e).bind fun xs e2 => .ok (.slot i :: xs) e2
        | _ => .bad)
      | a => if sg.isEmpty && isNil r then ((ev C a).1 e).bind fun x e1 => match x.2 with
        | .own => .ok [.tmp x.1] e1
        | _ => .bad else .bad
  | _, _, _ => .bad
end
abbrev evE (C : Cal) (a : IE) : En → Out (PV × Fl) := (ev C a).1
abbrev evT (C : Cal) (a : IE) : En → Out Bool := (ev C a).2
end Bd

namespace Bd
open PySem L2

/-! ### operations: what they need and give -/
def PR (g : Gx) (F H : Hp) : PV → V → Prop
  | .lst xs, v => ∃ a vs, v = .ref a ∧ H a = some (.lst vs) ∧ Reps g F xs vs
  | p, v => Rep g F p v
theorem Rep.pr {g : Gx} {F H : Hp} (sub : Same F H) {p : PV} {v : V} (h : Rep g F p v) : PR g F H p v := by
  cases p with
  | lst xs => obtain ⟨a, vs, e, h1, h2⟩ := h; exact ⟨a, vs, e, sub _ _ h1, h2⟩
  | _ => exact h
theorem OwnR.pr {g : Gx} {F H : Hp} {p : PV} {a : Addr} (h : OwnR g F H p a) : PR g F H p (.ref a) := by
  cases p with
  | lst xs => obtain ⟨vs, e, h⟩ := h; exact ⟨a, vs, rfl, e, h⟩
  | _ => exact h.elim
/-- heap and fixed part grow; nothing that stood is fixed -/
structure New (F H F' H' : Hp) : Prop where
  sF : Same F F'
  sH : Same H H'
  sub : Same F' H'
  nf : ∀ a o, H a = some o → F a = none → F' a = none
theorem New.refl {F H : Hp} (sub : Same F H) : New F H F H := ⟨.refl _, .refl _, sub, fun _ _ _ h => h⟩
theorem New.trans {F H F1 H1 F2 H2 : Hp} (a : New F H F1 H1) (b : New F1 H1 F2 H2) : New F H F2 H2 :=
  ⟨a.sF.trans b.sF, a.sH.trans b.sH, b.sub, fun x o h1 h2 => b.nf x o (a.sH x o h1) (a.nf x o h1 h2)⟩
/-- a new object that stays changeable -/
theorem New.obj {F H : Hp} (sub : Same F H) {p : Addr} {o : HO} (n : H p = none) : New F H F (upd H p o) :=
  ⟨.refl _, same_upd n, sub.trans (same_upd n), fun _ _ _ h => h⟩
/-- a new object that is fixed at once -/
theorem New.fix {F H : Hp} (sub : Same F H) {p : Addr} {o : HO} (n : H p = none) : New F H (upd F p o) (upd H p o) := by
  have nF : F p = none := Same.free sub n
  refine ⟨same_upd nF, same_upd n, fun b x q => ?_, fun b x h1 h2 => ?_⟩
  · by_cases hb : b = p
    · subst hb; rw [upd_same] at q ⊢; exact q
    · rw [upd_ne hb] at q ⊢; exact sub b x q
  · rw [upd_ne (ne_of_none h1 n)]; exact h2
/-- the value of an operation -/
def NewV (g : Gx) (F H F' H' : Hp) (r : PV) (v : V) : Prop :=
  New F H F' H' ∧ match flOf r with
    | .own => ∃ a, v = .ref a ∧ H a = none ∧ F' a = none ∧ OwnR g F' H' r a
    | _ => Rep g F' r v
theorem NewV.flat {g : Gx} {F H : Hp} (sub : Same F H) {r : PV} {v : V} (hf : flOf r = .fz) (h : Rep g F r v) : NewV g F H F H r v := by
  refine ⟨.refl sub, ?_⟩
  rw [hf]; exact h
theorem NewV.lst {g : Gx} {F H : Hp} (sub : Same F H) {p : Addr} {xs : List PV} {vs : List V} (n : H p = none) (h : Reps g F xs vs) : NewV g F H F (upd H p (.lst vs)) (.lst xs) (.ref p) :=
  ⟨.obj sub n, p, rfl, n, Same.free sub n, vs, upd_same, h⟩
theorem NewV.tup {g : Gx} {F H : Hp} (sub : Same F H) {p : Addr} {xs : List PV} {vs : List V} (n : H p = none) (h : Reps g F xs vs) : NewV g F H (upd F p (.tup vs)) (upd H p (.tup vs)) (.tup xs) (.ref p) :=
  ⟨.fix sub n, p, vs, rfl, .inl (.inl upd_same), Reps.mono (same_upd (Same.free sub n)) _ h⟩

abbrev gx (X : Cx) : Gx := ⟨X.K, X.mg⟩
def rP1 (g : Gx) (f : PV → Option PV) : V → Hp → VK → Prop := fun x H Q => ∃ F p r, Same F H ∧ PR g F H p x ∧ f p = some r ∧ ∀ v F' H', NewV g F H F' H' r v → Q v H'
def rP2 (g : Gx) (f : PV → PV → Option PV) : R2 := fun x y H Q => ∃ F p q r, Same F H ∧ PR g F H p x ∧ PR g F H q y ∧ f p q = some r ∧ ∀ v F' H', NewV g F H F' H' r v → Q v H'
/-- a comparison: nothing new -/
def rB2 (g : Gx) (f : PV → PV → Option Bool) : R2 := fun x y H Q => ∃ F p q b, Same F H ∧ PR g F H p x ∧ PR g F H q y ∧ f p q = some b ∧ Q (.bl b) H
def PRs (g : Gx) (F H : Hp) : List PV → List V → Prop
  | [], vs => vs = []
  | p :: ps, vs => ∃ v r, vs = v :: r ∧ PR g F H p v ∧ PRs g F H ps r
def rPs (g : Gx) (f : List PV → Option PV) : List V → Hp → VK → Prop := fun xs H Q => ∃ F ps r, Same F H ∧ PRs g F H ps xs ∧ f ps = some r ∧ ∀ v F' H', NewV g F H F' H' r v → Q v H'

section
variable {X : Cx}

theorem cutP_reps {g : Gx} {F : Hp} {xs : List PV} {vs : List V} (h : Reps g F xs vs) (lo hi : Option Int) : Reps g F (cutP xs lo hi) (cutV vs lo hi) := by
  have hl := h.length
  unfold cutP cutV
  rw [hl]
  exact (h.drop _).take _
theorem smallI_ok {i : Int} (h : smallI i = true) : -(2 ^ 64) < i ∧ i < 2 ^ 64 := by
  unfold smallI at h
  simp only [Bool.and_eq_true, decide_eq_true_eq] at h
  exact h
theorem powOk_ok {i j : Int} (h : powOk i j = true) : CPow i j := by
  unfold powOk at h
  simp only [Bool.and_eq_true, decide_eq_true_eq] at h
  exact ⟨h.1.1, h.1.2, h.2⟩
theorem op_bin (op : Operator) : OpR X (binaryOp op) (rP2 (gx X) (binP op)) := by
  intro pins s σ H x y v u Q I rx ry h
  obtain ⟨F, p, q, r, sub, hp, hq, e, k⟩ := h
  have fl : ∀ {r : PV} {v : V}, flOf r = .fz → Rep (gx X) F r v → NewV (gx X) F H F H r v := fun h1 h2 => NewV.flat sub h1 h2
  unfold binP at e
  split at e
  · cases e; cases hp; cases hq
    exact op_add pins s σ H _ _ v u Q I rx ry ⟨_, _, rfl, rfl, k _ F H (fl rfl rfl)⟩
  · split at e
    · rename_i hz
      cases e; cases hp; cases hq
      exact op_add_str pins s σ H _ _ v u Q I rx ry ⟨_, _, rfl, rfl, hz, k _ F H (fl rfl rfl)⟩
    · cases e
  · split at e
    · rename_i hz
      cases e
      obtain ⟨a, vs, rfl, h1, h2⟩ := hp
      obtain ⟨b, ws, rfl, h3, h4⟩ := hq
      have l1 := h2.length
      have l2 := h4.length
      exact op_cat pins s σ H _ _ v u Q I rx ry ⟨a, b, vs, ws, rfl, rfl, h1, h3, by omega, fun p n => k _ _ _ (NewV.lst sub n (h2.append h4))⟩
    · cases e
  · split at e
    · rename_i xs ys hz
      cases e
      obtain ⟨a, vs, rfl, h1, h2⟩ := hp
      obtain ⟨b, ws, rfl, h3, h4⟩ := hq
      have l1 := h2.length
      have l2 := h4.length
      refine op_catA pins s σ H _ _ v u Q I rx ry ⟨a, b, vs, ws, rfl, rfl, Same.tseq sub h1, Same.tseq sub h3, by omega, fun e1 => ?_, fun e1 e2 => ?_, fun e1 e2 p n => ?_⟩
      · subst e1
        have e3 : xs = [] := List.eq_nil_of_length_eq_zero l1.symm
        subst e3
        exact k _ F H (fl rfl ⟨b, ws, rfl, h3, h4⟩)
      · subst e2
        have e3 : ys = [] := List.eq_nil_of_length_eq_zero l2.symm
        subst e3
        refine k _ F H (fl rfl ⟨a, vs, rfl, h1, ?_⟩)
        rw [List.append_nil]; exact h2
      · exact k _ _ _ (NewV.tup sub n (h2.append h4))
    · cases e
  · cases e; cases hp; cases hq
    exact op_sub pins s σ H _ _ v u Q I rx ry ⟨_, _, rfl, rfl, k _ F H (fl rfl rfl)⟩
  · split at e
    · rename_i i j hz
      cases e; cases hp; cases hq
      have hc : CMul i j := by
        rcases Bool.or_eq_true_iff.mp hz with h1 | h1
        · exact .inl (smallI_ok h1)
        · exact .inr (smallI_ok h1)
      exact op_mul pins s σ H _ _ v u Q I rx ry ⟨_, _, rfl, rfl, hc, k _ F H (fl rfl rfl)⟩
    · cases e
  · split at e
    · rename_i hz
      cases e; cases hp; cases hq
      exact op_fdiv pins s σ H _ _ v u Q I rx ry ⟨_, _, rfl, rfl, hz, k _ F H (fl rfl rfl)⟩
    · cases e
  · split at e
    · rename_i hz
      cases e; cases hp; cases hq
      exact op_mod pins s σ H _ _ v u Q I rx ry ⟨_, _, rfl, rfl, hz, k _ F H (fl rfl rfl)⟩
    · cases e
  · split at e
    · rename_i hz
      cases e; cases hp; cases hq
      exact op_pow pins s σ H _ _ v u Q I rx ry ⟨_, _, rfl, rfl, powOk_ok hz, k _ F H (fl rfl rfl)⟩
    · cases e
  · split at e
    · rename_i hz
      cases e; cases hp; cases hq
      exact op_shl pins s σ H _ _ v u Q I rx ry ⟨_, _, rfl, rfl, powOk_ok hz, k _ F H (fl rfl rfl)⟩
    · cases e
  · split at e
    · rename_i hz
      cases e; cases hp; cases hq
      exact op_shr pins s σ H _ _ v u Q I rx ry ⟨_, _, rfl, rfl, hz, k _ F H (fl rfl rfl)⟩
    · cases e
  · cases e
theorem op_un (op : UnaryOp) : UnR X (unaryOp op) (rP1 (gx X) (unP op)) := by
  intro pins s σ H x v Q I rx h
  obtain ⟨F, p, r, sub, hp, e, k⟩ := h
  unfold unP at e
  split at e
  · cases e; cases hp
    exact un_neg pins s σ H _ v Q I rx ⟨_, rfl, k _ F H (NewV.flat sub rfl rfl)⟩
  · cases e
end
end Bd

namespace Bd
open PySem L2

/-! ### pure values in a heap -/
mutual
def HR (h : Heap) : PV → Value → Prop
  | .non, u => u = .none
  | .bl b, u => u = .bool b
  | .int i, u => ∃ t, u = .int i t
  | .str x, u => ∃ t, u = .str x t
  | .tup xs, u => ∃ a its, u = .ref a ∧ h.IsTuple a its.toArray ∧ HRs h xs its
  | .lst xs, u => ∃ a its, u = .ref a ∧ h.IsList a its.toArray ∧ HRs h xs its
  | _, _ => False
def HRs (h : Heap) : List PV → List Value → Prop
  | [], us => us = []
  | x :: xs, us => ∃ u r, us = u :: r ∧ HR h x u ∧ HRs h xs r
end
section
variable {X : Cx} {pins : List (Addr × Obj)} {σ : L2.St} {H F : Hp} {s : Shared}
mutual
theorem Rep.hr (I : Inv X pins σ H s) (sub : Same F H) : ∀ (p : PV) {v : V} {u : Value}, plainP p = true → Rep (gx X) F p v → RelV v u → HR s.heap p u
  | .non, _, _, _, h, r => by cases h; exact r
  | .bl _, _, _, _, h, r => by cases h; exact r
  | .int _, _, _, _, h, r => by cases h; exact r
  | .str _, _, _, _, h, r => by cases h; exact r
  | .fn _, _, _, hp, _, _ => by cases hp
  | .ty _, _, _, hp, _, _ => by cases hp
  | .scr _, _, _, hp, _, _ => by cases hp
  | .tup xs, _, _, hp, h, r => by
    obtain ⟨a, vs, rfl, h1, h2⟩ := h
    cases r
    obtain ⟨its, rv, ht, _⟩ := I.tuple (Same.tseq sub h1)
    exact ⟨a, its, rfl, ht, Reps.hr I sub xs hp h2 rv⟩
  | .lst xs, _, _, hp, h, r => by
    obtain ⟨a, vs, rfl, h1, h2⟩ := h
    cases r
    obtain ⟨its, rv, ht, _⟩ := I.list (.inl (.inl (sub _ _ h1)))
    exact ⟨a, its, rfl, ht.isList, Reps.hr I sub xs hp h2 rv⟩
theorem Reps.hr (I : Inv X pins σ H s) (sub : Same F H) : ∀ (ps : List PV) {vs : List V} {us : List Value}, plainPs ps = true → Reps (gx X) F ps vs → Vals vs us → HRs s.heap ps us
  | [], _, _, _, h, r => by cases h; cases r; rfl
  | x :: xs, _, _, hp, h, r => by
    obtain ⟨v, vr, rfl, h1, h2⟩ := h
    have hp' : (plainP x && plainPs xs) = true := hp
    obtain ⟨p1, p2⟩ := Bool.and_eq_true_iff.mp hp'
    cases r with
    | cons r1 r2 => exact ⟨_, _, rfl, Rep.hr I sub x p1 h1 r1, Reps.hr I sub xs p2 h2 r2⟩
end
theorem PR.hr (I : Inv X pins σ H s) (sub : Same F H) {p : PV} {v : V} {u : Value} (hp : plainP p = true) (h : PR (gx X) F H p v) (r : RelV v u) : HR s.heap p u := by
  cases p with
  | lst xs =>
    obtain ⟨a, vs, rfl, h1, h2⟩ := h
    cases r
    obtain ⟨its, rv, ht, _⟩ := I.list (.inl (.inl h1))
    exact ⟨a, its, rfl, ht.isList, Reps.hr I sub xs hp h2 rv⟩
  | _ => exact Rep.hr I sub _ hp h r
end
theorem HRs.length {h : Heap} : ∀ {ps : List PV} {us : List Value}, HRs h ps us → us.length = ps.length
  | [], _, e => by cases e; rfl
  | x :: xs, _, e => by
    obtain ⟨u, r, rfl, _, e2⟩ := e
    simp [HRs.length e2]
theorem HRs.get {h : Heap} : ∀ {ps : List PV} {us : List Value} (j : Nat) (h1 : j < us.length) (h2 : j < ps.length), HRs h ps us → HR h ps[j] us[j]
  | [], _, _, _, h2, _ => by simp at h2
  | x :: xs, _, 0, _, _, e => by obtain ⟨u, r, rfl, e1, _⟩ := e; exact e1
  | x :: xs, _, j + 1, h1, h2, e => by
    obtain ⟨u, r, rfl, _, e2⟩ := e
    exact HRs.get (ps := xs) (us := r) j (by simpa using h1) (by simpa using h2) e2
theorem isList_inj {h : Heap} {a : Addr} {x y : List Value} (h1 : h.IsList a x.toArray) (h2 : h.IsList a y.toArray) : x = y := by
  obtain ⟨o, e, _, n, d⟩ := h1
  obtain ⟨o', e', _, n', d'⟩ := h2
  rw [e] at e'; cases e'
  rw [d] at d'
  injection d' with d1 _
  simpa using congrArg Array.toList d1
theorem isTuple_inj {h : Heap} {a : Addr} {x y : List Value} (h1 : h.IsTuple a x.toArray) (h2 : h.IsTuple a y.toArray) : x = y := by
  obtain ⟨o, e, _, n, d⟩ := h1
  obtain ⟨o', e', _, n', d'⟩ := h2
  rw [e] at e'; cases e'
  rw [d] at d'
  injection d' with d1 _
  simpa using congrArg Array.toList d1
mutual
theorem HR.inj {h : Heap} : ∀ (p q : PV) {u : Value}, HR h p u → HR h q u → p = q
  | .non, q, _, e, e' => by cases e; cases q <;> first | rfl | (obtain ⟨_, _, z, _⟩ := e'; cases z) | (obtain ⟨_, z⟩ := e'; cases z) | cases e'
  | .bl _, q, _, e, e' => by cases e; cases q <;> first | (obtain ⟨_, _, z, _⟩ := e'; cases z) | (obtain ⟨_, z⟩ := e'; cases z) | (cases e'; rfl) | cases e'
  | .int _, q, _, e, e' => by obtain ⟨t, rfl⟩ := e; cases q <;> first | (obtain ⟨_, _, z, _⟩ := e'; cases z) | (obtain ⟨_, z⟩ := e'; cases z; rfl) | (obtain ⟨_, z⟩ := e'; cases z) | cases e'
  | .str _, q, _, e, e' => by obtain ⟨t, rfl⟩ := e; cases q <;> first | (obtain ⟨_, _, z, _⟩ := e'; cases z) | (obtain ⟨_, z⟩ := e'; cases z; rfl) | (obtain ⟨_, z⟩ := e'; cases z) | cases e'
  | .fn _, _, _, e, _ => e.elim
  | .ty _, _, _, e, _ => e.elim
  | .scr _, _, _, e, _ => e.elim
  | .tup xs, q, _, e, e' => by
    obtain ⟨a, its, rfl, h1, h2⟩ := e
    cases q with
    | tup ys =>
      obtain ⟨a', its', z, h3, h4⟩ := e'
      cases z
      have := isTuple_inj h1 h3
      subst this
      rw [HRs.inj xs ys h2 h4]
    | lst ys =>
      obtain ⟨a', its', z, ⟨o', e2, c2, _⟩, h4⟩ := e'
      cases z
      obtain ⟨o, e1, c1, _⟩ := h1
      rw [e1] at e2; cases e2
      rw [c1] at c2; injection c2 with c3; exact absurd c3 (by decide)
    | non => cases e'
    | bl _ => cases e'
    | int _ => obtain ⟨_, z⟩ := e'; cases z
    | str _ => obtain ⟨_, z⟩ := e'; cases z
    | _ => exact e'.elim
  | .lst xs, q, _, e, e' => by
    obtain ⟨a, its, rfl, h1, h2⟩ := e
    cases q with
    | lst ys =>
      obtain ⟨a', its', z, h3, h4⟩ := e'
      cases z
      have := isList_inj h1 h3
      subst this
      rw [HRs.inj xs ys h2 h4]
    | tup ys =>
      obtain ⟨a', its', z, ⟨o', e2, c2, _⟩, h4⟩ := e'
      cases z
      obtain ⟨o, e1, c1, _⟩ := h1
      rw [e1] at e2; cases e2
      rw [c1] at c2; injection c2 with c3; exact absurd c3 (by decide)
    | non => cases e'
    | bl _ => cases e'
    | int _ => obtain ⟨_, z⟩ := e'; cases z
    | str _ => obtain ⟨_, z⟩ := e'; cases z
    | _ => exact e'.elim
theorem HRs.inj {h : Heap} : ∀ (ps qs : List PV) {us : List Value}, HRs h ps us → HRs h qs us → ps = qs
  | [], [], _, _, _ => rfl
  | [], y :: ys, _, e, e' => by cases e; obtain ⟨_, _, z, _⟩ := e'; cases z
  | x :: xs, [], _, e, e' => by cases e'; obtain ⟨_, _, z, _⟩ := e; cases z
  | x :: xs, y :: ys, _, e, e' => by
    obtain ⟨u, r, rfl, h1, h2⟩ := e
    obtain ⟨u', r', z, h3, h4⟩ := e'
    cases z
    rw [HR.inj x y h1 h3, HRs.inj xs ys h2 h4]
end
mutual
theorem eqP_refl : ∀ p : PV, plainP p = true → eqP p p = true
  | .non, _ => rfl
  | .bl b, _ => by simp [eqP]
  | .int _, _ => by simp [eqP]
  | .str _, _ => by simp [eqP]
  | .fn _, h => by cases h
  | .ty _, h => by cases h
  | .scr _, h => by cases h
  | .tup xs, h => eqPs_refl xs h
  | .lst xs, h => eqPs_refl xs h
theorem eqPs_refl : ∀ ps : List PV, plainPs ps = true → eqPs ps ps = true
  | [], _ => rfl
  | x :: xs, h => by
    obtain ⟨h1, h2⟩ := Bool.and_eq_true_iff.mp (show (plainP x && plainPs xs) = true from h)
    show (eqP x x && eqPs xs xs) = true
    rw [eqP_refl x h1, eqPs_refl xs h2]; rfl
end
/-- place by place -/
def eqAtJ (xs ys : List PV) (j : Nat) : Bool := match xs[j]?, ys[j]? with
  | some x, some y => eqP x y
  | _, _ => false
theorem eqPs_all : ∀ xs ys : List PV, ((List.range (min xs.length ys.length)).all (eqAtJ xs ys) && xs.length == ys.length) = eqPs xs ys
  | [], [] => rfl
  | [], _ :: _ => by simp [eqPs]
  | _ :: _, [] => by simp [eqPs]
  | x :: xs, y :: ys => by
    have ih := eqPs_all xs ys
    have e : (List.range (min (x :: xs).length (y :: ys).length)).all (eqAtJ (x :: xs) (y :: ys)) = (eqP x y && (List.range (min xs.length ys.length)).all (eqAtJ xs ys)) := by
      have hm : min (x :: xs).length (y :: ys).length = min xs.length ys.length + 1 := by simp only [List.length_cons]; omega
      rw [hm, List.range_succ_eq_map, List.all_cons, List.all_map]
      rfl
    rw [e]
    have e2 : ((x :: xs).length == (y :: ys).length) = (xs.length == ys.length) := by simp [List.length_cons]
    rw [e2, Bool.and_assoc, ih]
    rfl
theorem plain_get : ∀ {ps : List PV} (j : Nat) (h : j < ps.length), plainPs ps = true → plainP ps[j] = true
  | [], _, h, _ => by simp at h
  | x :: xs, 0, _, hp => (Bool.and_eq_true_iff.mp (show (plainP x && plainPs xs) = true from hp)).1
  | x :: xs, j + 1, h, hp => plain_get (ps := xs) j (by simpa using h) (Bool.and_eq_true_iff.mp (show (plainP x && plainPs xs) = true from hp)).2
theorem dep_get : ∀ {ps : List PV} (j : Nat) (h : j < ps.length), depP ps[j] ≤ depPs ps
  | [], _, h => by simp at h
  | x :: xs, 0, _ => Nat.le_max_left _ _
  | x :: xs, j + 1, h => Nat.le_trans (dep_get (ps := xs) j (by simpa using h)) (Nat.le_max_right _ _)
section
open SeqAt
variable {s : Shared}
theorem in1_units (A : Around) : A.in1.units = A.units + 1 := rfl
/-- two pure values are compared -/
theorem rcAt_pv : ∀ (n : Nat) (p q : PV) (A : Around) {u w : Value}, min (depP p) (depP q) ≤ n → HR s.heap p u → HR s.heap q w → plainP p = true → plainP q = true → A.units + min (depP p) (depP q) < cLine → RcAt A s u w (eqP p q) ∧ EqAt A s u w (eqP p q) := by
  intro n
  induction n with
  | zero =>
    intro p q A u w hn hp hq pp pq hu
    have hu0 : A.units < cLine := by omega
    cases p with
    | non =>
      cases hp
      cases q with
      | non => cases hq; exact ⟨RcAt.none_none, EqAt.same _⟩
      | bl b => cases hq; exact ⟨RcAt.none_bool _, EqAt.none_bool _⟩
      | int b => obtain ⟨t, rfl⟩ := hq; exact ⟨RcAt.none_int _ _, EqAt.none_int _ _⟩
      | str b => obtain ⟨t, rfl⟩ := hq; exact ⟨RcAt.none_str _ _, EqAt.none_str _ _⟩
      | tup xs => obtain ⟨a, its, rfl, h1, h2⟩ := hq; exact ⟨RcAt.none_tuple h1 hu0, EqAt.none_tuple h1 hu0⟩
      | lst xs => obtain ⟨a, its, rfl, h1, h2⟩ := hq; exact ⟨RcAt.none_list h1 hu0, EqAt.none_list h1 hu0⟩
      | _ => exact hq.elim
    | bl c =>
      cases hp
      cases q with
      | non => cases hq; exact ⟨RcAt.bool_none _, EqAt.bool_none _⟩
      | bl b => cases hq; exact ⟨RcAt.bool_bool _ _, EqAt.bool_bool _ _⟩
      | int b => obtain ⟨t, rfl⟩ := hq; exact ⟨RcAt.bool_int _ _ _, EqAt.bool_int _ _ _⟩
      | str b => obtain ⟨t, rfl⟩ := hq; exact ⟨RcAt.bool_str _ _ _, EqAt.bool_str _ _ _⟩
      | tup xs => obtain ⟨a, its, rfl, h1, h2⟩ := hq; exact ⟨RcAt.bool_tuple _ h1 hu0, EqAt.bool_tuple _ h1 hu0⟩
      | lst xs => obtain ⟨a, its, rfl, h1, h2⟩ := hq; exact ⟨RcAt.bool_list _ h1 hu0, EqAt.bool_list _ h1 hu0⟩
      | _ => exact hq.elim
    | int c =>
      obtain ⟨t', rfl⟩ := hp
      cases q with
      | non => cases hq; exact ⟨RcAt.int_none _ _, EqAt.int_none _ _⟩
      | bl b => cases hq; exact ⟨RcAt.int_bool _ _ _, EqAt.int_bool _ _ _⟩
      | int b => obtain ⟨t, rfl⟩ := hq; exact ⟨RcAt.int_int _ _ _ _, EqAt.int_int _ _ _ _⟩
      | str b => obtain ⟨t, rfl⟩ := hq; exact ⟨RcAt.int_str _ _ _ _, EqAt.int_str _ _ _ _⟩
      | tup xs => obtain ⟨a, its, rfl, h1, h2⟩ := hq; exact ⟨RcAt.int_tuple _ _ h1 hu0, EqAt.int_tuple _ _ h1 hu0⟩
      | lst xs => obtain ⟨a, its, rfl, h1, h2⟩ := hq; exact ⟨RcAt.int_list _ _ h1 hu0, EqAt.int_list _ _ h1 hu0⟩
      | _ => exact hq.elim
    | str c =>
      obtain ⟨t', rfl⟩ := hp
      cases q with
      | non => cases hq; exact ⟨RcAt.str_none _ _, EqAt.str_none _ _⟩
      | bl b => cases hq; exact ⟨RcAt.str_bool _ _ _, EqAt.str_bool _ _ _⟩
      | int b => obtain ⟨t, rfl⟩ := hq; exact ⟨RcAt.str_int _ _ _ _, EqAt.str_int _ _ _ _⟩
      | str b => obtain ⟨t, rfl⟩ := hq; exact ⟨RcAt.str_str _ _ _ _, EqAt.str_str _ _ _ _⟩
      | tup xs => obtain ⟨a, its, rfl, h1, h2⟩ := hq; exact ⟨RcAt.str_tuple _ _ h1 hu0, EqAt.str_tuple _ _ h1 hu0⟩
      | lst xs => obtain ⟨a, its, rfl, h1, h2⟩ := hq; exact ⟨RcAt.str_list _ _ h1 hu0, EqAt.str_list _ _ h1 hu0⟩
      | _ => exact hq.elim
    | tup xs =>
      obtain ⟨a, its, rfl, h1, h2⟩ := hp
      cases q with
      | non => cases hq; exact ⟨RcAt.tuple_none h1 hu0, EqAt.tuple_none h1 hu0⟩
      | bl b => cases hq; exact ⟨RcAt.tuple_bool _ h1 hu0, EqAt.tuple_bool _ h1 hu0⟩
      | int b => obtain ⟨t, rfl⟩ := hq; exact ⟨RcAt.tuple_int _ _ h1 hu0, EqAt.tuple_int _ _ h1 hu0⟩
      | str b => obtain ⟨t, rfl⟩ := hq; exact ⟨RcAt.tuple_str _ _ h1 hu0, EqAt.tuple_str _ _ h1 hu0⟩
      | tup ys => exact absurd hn (by show ¬ min (depPs xs + 1) (depPs ys + 1) ≤ 0; omega)
      | lst ys => exact absurd hn (by show ¬ min (depPs xs + 1) (depPs ys + 1) ≤ 0; omega)
      | _ => exact hq.elim
    | lst xs =>
      obtain ⟨a, its, rfl, h1, h2⟩ := hp
      cases q with
      | non => cases hq; exact ⟨RcAt.list_none h1 hu0, EqAt.list_none h1 hu0⟩
      | bl b => cases hq; exact ⟨RcAt.list_bool _ h1 hu0, EqAt.list_bool _ h1 hu0⟩
      | int b => obtain ⟨t, rfl⟩ := hq; exact ⟨RcAt.list_int _ _ h1 hu0, EqAt.list_int _ _ h1 hu0⟩
      | str b => obtain ⟨t, rfl⟩ := hq; exact ⟨RcAt.list_str _ _ h1 hu0, EqAt.list_str _ _ h1 hu0⟩
      | tup ys => exact absurd hn (by show ¬ min (depPs xs + 1) (depPs ys + 1) ≤ 0; omega)
      | lst ys => exact absurd hn (by show ¬ min (depPs xs + 1) (depPs ys + 1) ≤ 0; omega)
      | _ => exact hq.elim
    | _ => exact hp.elim
  | succ n ih =>
    intro p q A u w hn hp hq pp pq hu
    by_cases h0 : min (depP p) (depP q) ≤ n
    · exact ih p q A h0 hp hq pp pq hu
    have hu0 : A.units < cLine := by omega
    have items : ∀ (xs ys : List PV) (its its2 : List Value), HRs s.heap xs its → HRs s.heap ys its2 → plainPs xs = true → plainPs ys = true → min (depPs xs) (depPs ys) ≤ n → A.units + 1 + min (depPs xs) (depPs ys) < cLine →
        ∀ j (h1 : j < its.toArray.size) (h2 : j < its2.toArray.size), EqAt A.in1 s its.toArray[j] its2.toArray[j] (eqAtJ xs ys j) := by
      intro xs ys its its2 g1 g2 px py hd hz j h1 h2
      have l1 := g1.length
      have l2 := g2.length
      have j1 : j < xs.length := by simp at h1; omega
      have j2 : j < ys.length := by simp at h2; omega
      have e : eqAtJ xs ys j = eqP xs[j] ys[j] := by unfold eqAtJ; rw [List.getElem?_eq_getElem j1, List.getElem?_eq_getElem j2]
      rw [e]
      have d1 := dep_get j j1
      have d2 := dep_get j j2
      exact (ih xs[j] ys[j] A.in1 (by omega) (g1.get j (by simpa using h1) j1) (g2.get j (by simpa using h2) j2) (plain_get j j1 px) (plain_get j j2 py) (by rw [in1_units]; omega)).2
    cases p with
    | tup xs =>
      obtain ⟨a, its, rfl, h1, h2⟩ := hp
      cases q with
      | tup ys =>
        obtain ⟨b, its2, rfl, h3, h4⟩ := hq
        have hd : min (depPs xs + 1) (depPs ys + 1) ≤ n + 1 := hn
        have hv : A.units + min (depPs xs + 1) (depPs ys + 1) < cLine := hu
        have l1 := h2.length
        have l2 := h4.length
        have rc : RcAt A s (.ref a) (.ref b) (eqPs xs ys) := by
          have := RcAt.tuples h1 h3 hu0 (items xs ys its its2 h2 h4 pp pq (by omega) (by omega))
          rw [← eqPs_all xs ys]
          simpa [l1, l2] using this
        refine ⟨rc, ?_⟩
        by_cases hab : a = b
        · subst hab
          have e1 : its = its2 := isTuple_inj h1 h3
          subst e1
          have e2 := HRs.inj xs ys h2 h4
          subst e2
          show EqAt A s _ _ (eqPs xs xs)
          rw [eqPs_refl xs pp]
          exact EqAt.same _
        · exact EqAt.of_refs hab rc
      | lst ys =>
        obtain ⟨b, its2, rfl, h3, h4⟩ := hq
        exact ⟨RcAt.tuple_list h1 h3 hu0, EqAt.tuple_list h1 h3 hu0⟩
      | _ => exact absurd (show min (depPs xs + 1) 0 ≤ n by omega) h0
    | lst xs =>
      obtain ⟨a, its, rfl, h1, h2⟩ := hp
      cases q with
      | lst ys =>
        obtain ⟨b, its2, rfl, h3, h4⟩ := hq
        have hd : min (depPs xs + 1) (depPs ys + 1) ≤ n + 1 := hn
        have hv : A.units + min (depPs xs + 1) (depPs ys + 1) < cLine := hu
        have l1 := h2.length
        have l2 := h4.length
        have rc : RcAt A s (.ref a) (.ref b) (eqPs xs ys) := by
          by_cases hl : xs.length = ys.length
          · have := RcAt.lists h1 h3 (by simp; omega) hu0 (items xs ys its its2 h2 h4 pp pq (by omega) (by omega))
            rw [← eqPs_all xs ys]
            simpa [l1, l2, hl] using this
          · have := RcAt.lists_lengths h1 h3 (by simp; omega) hu0
            rw [← eqPs_all xs ys]
            have e : (xs.length == ys.length) = false := by simpa using hl
            rw [e, Bool.and_false]; exact this
        refine ⟨rc, ?_⟩
        by_cases hab : a = b
        · subst hab
          have e1 : its = its2 := isList_inj h1 h3
          subst e1
          have e2 := HRs.inj xs ys h2 h4
          subst e2
          show EqAt A s _ _ (eqPs xs xs)
          rw [eqPs_refl xs pp]
          exact EqAt.same _
        · exact EqAt.of_refs hab rc
      | tup ys =>
        obtain ⟨b, its2, rfl, h3, h4⟩ := hq
        exact ⟨RcAt.list_tuple h1 h3 hu0, EqAt.list_tuple h1 h3 hu0⟩
      | _ => exact absurd (show min (depPs xs + 1) 0 ≤ n by omega) h0
    | _ => exact absurd (show min 0 _ ≤ n by omega) h0
end
end Bd

namespace Bd
open PySem L2
section
open SeqAt
variable {s : Shared}
theorem itemsEq {A : Around} {xs ys : List PV} {its its2 : List Value} (g1 : HRs s.heap xs its) (g2 : HRs s.heap ys its2) (px : plainPs xs = true) (py : plainPs ys = true) (hz : A.units + min (depPs xs + 1) (depPs ys + 1) < cLine) :
    ∀ j (h1 : j < its.toArray.size) (h2 : j < its2.toArray.size), EqAt A.in1 s its.toArray[j] its2.toArray[j] (eqAtJ xs ys j) := by
  intro j h1 h2
  have l1 := g1.length
  have l2 := g2.length
  have j1 : j < xs.length := by simp at h1; omega
  have j2 : j < ys.length := by simp at h2; omega
  have e : eqAtJ xs ys j = eqP xs[j] ys[j] := by unfold eqAtJ; rw [List.getElem?_eq_getElem j1, List.getElem?_eq_getElem j2]
  rw [e]
  have d1 := dep_get j j1
  have d2 := dep_get j j2
  exact (rcAt_pv _ xs[j] ys[j] A.in1 (Nat.le_refl _) (g1.get j (by simpa using h1) j1) (g2.get j (by simpa using h2) j2) (plain_get j j1 px) (plain_get j j2 py) (by rw [in1_units]; omega)).2
theorem same_tup {A : Around} {w : Value} (xs ys : List PV) (a : Addr) (its : List Value) (h1 : s.heap.IsTuple a its.toArray) (h2 : HRs s.heap xs its) (hq : HR s.heap (.tup ys) w) (pp : plainP (.tup xs) = true) (pq : plainP (.tup ys) = true)
    (hu : A.units + min (depP (.tup xs)) (depP (.tup ys)) < cLine) : RcNeAt A s (.ref a) w (!eqP (.tup xs) (.tup ys)) := by
  obtain ⟨b, its2, rfl, h3, h4⟩ := hq
  have l1 := h2.length
  have l2 := h4.length
  have := RcNeAt.tuples h1 h3 (show A.units < cLine by omega) (itemsEq (A := A) h2 h4 pp pq hu)
  show RcNeAt A s _ _ (!eqPs xs ys)
  rw [← eqPs_all xs ys]
  simpa [l1, l2] using this
theorem same_lst {A : Around} {w : Value} (xs ys : List PV) (a : Addr) (its : List Value) (h1 : s.heap.IsList a its.toArray) (h2 : HRs s.heap xs its) (hq : HR s.heap (.lst ys) w) (pp : plainP (.lst xs) = true) (pq : plainP (.lst ys) = true)
    (hu : A.units + min (depP (.lst xs)) (depP (.lst ys)) < cLine) : RcNeAt A s (.ref a) w (!eqP (.lst xs) (.lst ys)) := by
  obtain ⟨b, its2, rfl, h3, h4⟩ := hq
  have l1 := h2.length
  have l2 := h4.length
  show RcNeAt A s _ _ (!eqPs xs ys)
  rw [← eqPs_all xs ys]
  by_cases hl : xs.length = ys.length
  · have := RcNeAt.lists h1 h3 (by simp; omega) (show A.units < cLine by omega) (itemsEq (A := A) h2 h4 pp pq hu)
    simpa [l1, l2, hl] using this
  · have := RcNeAt.lists_lengths h1 h3 (by simp; omega) (show A.units < cLine by omega)
    have e : (xs.length == ys.length) = false := by simpa using hl
    rw [e, Bool.and_false]; exact this
theorem rcNe_pv (p q : PV) (A : Around) {u w : Value} (hp : HR s.heap p u) (hq : HR s.heap q w) (pp : plainP p = true) (pq : plainP q = true) (hu : A.units + min (depP p) (depP q) < cLine) : RcNeAt A s u w (!eqP p q) := by
  have hu0 : A.units < cLine := by omega
  cases p with
  | non =>
    cases hp
    cases q with
    | non => cases hq; exact RcNeAt.none_none 
    | bl d => cases hq; exact RcNeAt.none_bool _
    | int d => obtain ⟨t, rfl⟩ := hq; exact RcNeAt.none_int _ _
    | str d => obtain ⟨t, rfl⟩ := hq; exact RcNeAt.none_str _ _
    | tup ys => obtain ⟨b, its2, rfl, h3, h4⟩ := hq; exact RcNeAt.none_tuple  h3 hu0
    | lst ys => obtain ⟨b, its2, rfl, h3, h4⟩ := hq; exact RcNeAt.none_list  h3 hu0
    | _ => exact hq.elim
  | bl c =>
    cases hp
    cases q with
    | non => cases hq; exact RcNeAt.bool_none _
    | bl d => cases hq; exact RcNeAt.bool_bool _ _
    | int d => obtain ⟨t, rfl⟩ := hq; exact RcNeAt.bool_int _ _ _
    | str d => obtain ⟨t, rfl⟩ := hq; exact RcNeAt.bool_str _ _ _
    | tup ys => obtain ⟨b, its2, rfl, h3, h4⟩ := hq; exact RcNeAt.bool_tuple _ h3 hu0
    | lst ys => obtain ⟨b, its2, rfl, h3, h4⟩ := hq; exact RcNeAt.bool_list _ h3 hu0
    | _ => exact hq.elim
  | int c =>
    obtain ⟨t', rfl⟩ := hp
    cases q with
    | non => cases hq; exact RcNeAt.int_none _ _
    | bl d => cases hq; exact RcNeAt.int_bool _ _ _
    | int d => obtain ⟨t, rfl⟩ := hq; exact RcNeAt.int_int _ _ _ _
    | str d => obtain ⟨t, rfl⟩ := hq; exact RcNeAt.int_str _ _ _ _
    | tup ys => obtain ⟨b, its2, rfl, h3, h4⟩ := hq; exact RcNeAt.int_tuple _ _ h3 hu0
    | lst ys => obtain ⟨b, its2, rfl, h3, h4⟩ := hq; exact RcNeAt.int_list _ _ h3 hu0
    | _ => exact hq.elim
  | str c =>
    obtain ⟨t', rfl⟩ := hp
    cases q with
    | non => cases hq; exact RcNeAt.str_none _ _
    | bl d => cases hq; exact RcNeAt.str_bool _ _ _
    | int d => obtain ⟨t, rfl⟩ := hq; exact RcNeAt.str_int _ _ _ _
    | str d => obtain ⟨t, rfl⟩ := hq; exact RcNeAt.str_str _ _ _ _
    | tup ys => obtain ⟨b, its2, rfl, h3, h4⟩ := hq; exact RcNeAt.str_tuple _ _ h3 hu0
    | lst ys => obtain ⟨b, its2, rfl, h3, h4⟩ := hq; exact RcNeAt.str_list _ _ h3 hu0
    | _ => exact hq.elim
  | tup xs =>
    obtain ⟨a, its, rfl, h1, h2⟩ := hp
    cases q with
    | non => cases hq; exact RcNeAt.tuple_none  h1 hu0
    | bl d => cases hq; exact RcNeAt.tuple_bool _ h1 hu0
    | int d => obtain ⟨t, rfl⟩ := hq; exact RcNeAt.tuple_int _ _ h1 hu0
    | str d => obtain ⟨t, rfl⟩ := hq; exact RcNeAt.tuple_str _ _ h1 hu0
    | tup ys => exact same_tup xs ys a its h1 h2 hq pp pq hu
    | lst ys => obtain ⟨b, its2, rfl, h3, h4⟩ := hq; exact RcNeAt.tuple_list h1 h3 hu0
    | _ => exact hq.elim
  | lst xs =>
    obtain ⟨a, its, rfl, h1, h2⟩ := hp
    cases q with
    | non => cases hq; exact RcNeAt.list_none  h1 hu0
    | bl d => cases hq; exact RcNeAt.list_bool _ h1 hu0
    | int d => obtain ⟨t, rfl⟩ := hq; exact RcNeAt.list_int _ _ h1 hu0
    | str d => obtain ⟨t, rfl⟩ := hq; exact RcNeAt.list_str _ _ h1 hu0
    | tup ys => obtain ⟨b, its2, rfl, h3, h4⟩ := hq; exact RcNeAt.list_tuple h1 h3 hu0
    | lst ys => exact same_lst xs ys a its h1 h2 hq pp pq hu
    | _ => exact hq.elim
  | _ => exact hp.elim
theorem anyEq_any {A : Around} {q : PV} {w : Value} (hq : HR s.heap q w) (pq : plainP q = true) : ∀ (xs : List PV) (its : List Value), HRs s.heap xs its → plainPs xs = true → A.units + min (depP q) (depPs xs) < cLine →
    ∃ e : Value → Bool, (∀ y ∈ its, EqAt A s y w (e y)) ∧ its.any e = anyEq q xs := by
  intro xs its h px hu
  -- e by the pure value that stands there
  have key : ∀ y ∈ its, ∃ x ∈ xs, HR s.heap x y := by
    induction xs generalizing its with
    | nil => intro y hy; cases h; simp at hy
    | cons x xs ih =>
      obtain ⟨u, r, rfl, h1, h2⟩ := h
      obtain ⟨p1, p2⟩ := Bool.and_eq_true_iff.mp (show (plainP x && plainPs xs) = true from px)
      intro y hy
      rcases List.mem_cons.mp hy with rfl | hy
      · exact ⟨x, by simp, h1⟩
      · obtain ⟨z, hz, hr⟩ := ih r h2 p2 (by have : depPs xs ≤ depPs (x :: xs) := Nat.le_max_right _ _; omega) y hy
        exact ⟨z, List.mem_cons_of_mem _ hz, hr⟩
  classical
  let e : Value → Bool := fun y => if hy : ∃ x, HR s.heap x y then eqP (Classical.choose hy) q else false
  have he : ∀ (x : PV) (y : Value), HR s.heap x y → e y = eqP x q := fun x y hr => by
    have hy : ∃ x, HR s.heap x y := ⟨x, hr⟩
    show (if hy : ∃ x, HR s.heap x y then eqP (Classical.choose hy) q else false) = _
    rw [dif_pos hy, HR.inj _ _ (Classical.choose_spec hy) hr]
  have plainM : ∀ x ∈ xs, plainP x = true ∧ depP x ≤ depPs xs := by
    clear key h hu
    induction xs with
    | nil => intro x hx; simp at hx
    | cons z zs ih =>
      obtain ⟨p1, p2⟩ := Bool.and_eq_true_iff.mp (show (plainP z && plainPs zs) = true from px)
      intro x hx
      rcases List.mem_cons.mp hx with rfl | hx
      · exact ⟨p1, Nat.le_max_left _ _⟩
      · obtain ⟨a1, a2⟩ := ih p2 x hx
        exact ⟨a1, Nat.le_trans a2 (Nat.le_max_right _ _)⟩
  refine ⟨e, fun y hy => ?_, ?_⟩
  · obtain ⟨x, hx, hr⟩ := key y hy
    rw [he x y hr]
    obtain ⟨p1, d1⟩ := plainM x hx
    exact (rcAt_pv _ x q A (Nat.le_refl _) hr hq p1 pq (by omega)).2
  · clear key plainM hu
    induction xs generalizing its with
    | nil => cases h; rfl
    | cons x xs ih =>
      obtain ⟨u, r, rfl, h1, h2⟩ := h
      obtain ⟨p1, p2⟩ := Bool.and_eq_true_iff.mp (show (plainP x && plainPs xs) = true from px)
      rw [List.any_cons, he x u h1, ih r h2 p2]
      rfl
end

section
variable {X : Cx}
theorem cmpOk_ok {p q : PV} (h : cmpOk p q = true) : plainP p = true ∧ plainP q = true ∧ min (depP p) (depP q) ≤ 60 := by
  unfold cmpOk at h
  simp only [Bool.and_eq_true, decide_eq_true_eq] at h
  exact ⟨h.1.1, h.1.2, h.2⟩
theorem inP_ok {p : PV} {xs : List PV} (h : (cmpOk p p && plainPs xs && decide (min (depP p) (depPs xs) ≤ 59)) = true) : plainP p = true ∧ plainPs xs = true ∧ min (depP p) (depPs xs) ≤ 59 := by
  simp only [Bool.and_eq_true, decide_eq_true_eq] at h
  exact ⟨(cmpOk_ok h.1.1).1, h.1.2, h.2⟩
theorem sign1_ok {x : Str} {c : Nat} (h : sign1 x = some c) : x = ⟨#[c]⟩ := by
  unfold sign1 at h
  split at h
  · rename_i d e
    cases h
    obtain ⟨a⟩ := x
    have e' : a.toList = [c] := e
    have : a = #[c] := by
      apply Array.ext'
      simpa using e'
    rw [this]
  · cases h
theorem signP_ok {p : PV} {c : Nat} (h : signP p = some c) : p = .str ⟨#[c]⟩ ∧ True := by
  cases p with
  | str x => exact ⟨by rw [sign1_ok h], trivial⟩
  | _ => cases h
theorem op_inP (hu : X.A.units + 64 < cLine) (neg : Bool) : OpR X (compareOp (if neg then .NotIn else .In)) (rB2 (gx X) fun p q => (inP p q).map fun b => if neg then !b else b) := by
  intro pins s σ H x y v u Q I rx ry h
  obtain ⟨F, p, q, b, sub, hp, hq, e, k⟩ := h
  obtain ⟨c, ec, rfl⟩ := Option.map_eq_some_iff.mp e
  have fin : ∀ {k' : Bool}, Q (.bl k') H → EP X pins σ Q (.bool k') s := fun {k'} q => ⟨.bl k', H, I, rfl, q⟩
  unfold inP at ec
  split at ec
  · split at ec
    · rename_i xs hz
      cases ec
      obtain ⟨pp, px, hd⟩ := inP_ok hz
      obtain ⟨a, vs, rfl, h1, h2⟩ := hq
      cases ry
      obtain ⟨its, rv, ht, _⟩ := I.list (.inl (.inl h1))
      obtain ⟨e', he, ea⟩ := anyEq_any (A := X.A.in1) (PR.hr I sub pp hp rx) pp xs its (Reps.hr I sub xs px h2 rv) px (by rw [in1_units]; omega)
      cases neg with
      | true =>
        refine SeqAt.notIn_listAt e' ht.isList (fun y hy => he y (by simpa using hy)) (fin ?_)
        rw [List.any_toArray, ea]; exact k
      | false =>
        refine SeqAt.in_listAt e' ht.isList (fun y hy => he y (by simpa using hy)) (fin ?_)
        rw [List.any_toArray, ea]; exact k
    · cases ec
  · split at ec
    · rename_i xs hz
      cases ec
      obtain ⟨pp, px, hd⟩ := inP_ok hz
      obtain ⟨a, vs, rfl, h1, h2⟩ := hq
      cases ry
      obtain ⟨its, rv, ht, _⟩ := I.tuple (Same.tseq sub h1)
      obtain ⟨e', he, ea⟩ := anyEq_any (A := X.A.in1) (PR.hr I sub pp hp rx) pp xs its (Reps.hr I sub xs px h2 rv) px (by rw [in1_units]; omega)
      cases neg with
      | true =>
        refine SeqAt.notIn_tupleAt e' ht (fun y hy => he y (by simpa using hy)) (fin ?_)
        rw [List.any_toArray, ea]; exact k
      | false =>
        refine SeqAt.in_tupleAt e' ht (fun y hy => he y (by simpa using hy)) (fin ?_)
        rw [List.any_toArray, ea]; exact k
    · cases ec
  · obtain ⟨c1, e1, e2⟩ := Option.map_eq_some_iff.mp ec
    subst e2
    obtain ⟨e3, e4⟩ := signP_ok e1
    subst e3
    cases hp; cases hq
    cases neg with
    | true => exact op_notIn_sign pins s σ H _ _ v u Q I rx ry ⟨_, _, rfl, rfl, k⟩
    | false => exact op_in_sign pins s σ H _ _ v u Q I rx ry ⟨_, _, rfl, rfl, k⟩
  · cases ec
theorem PR.non_iff {g : Gx} {F H : Hp} {p : PV} {x : V} (h : PR g F H p x) : decide (x = .non) = isNonP p := by
  cases p with
  | non => cases h; rfl
  | bl b => cases h; rfl
  | int b => cases h; rfl
  | str b => cases h; rfl
  | ty b => cases h; rfl
  | tup xs => obtain ⟨a, _, rfl, _⟩ := h; rfl
  | lst xs => obtain ⟨a, _, rfl, _⟩ := h; rfl
  | scr xs => obtain ⟨a, _, rfl, _⟩ := h; rfl
  | fn xs => obtain ⟨a, rfl, _⟩ := h; rfl
theorem op_cmp (hu : X.A.units + 64 < cLine) (op : CmpOp) : OpR X (compareOp op) (rB2 (gx X) (cmpP op)) := by
  intro pins s σ H x y v u Q I rx ry h
  obtain ⟨F, p, q, b, sub, hp, hq, e, k⟩ := h
  have fin : ∀ {k' : Bool}, Q (.bl k') H → EP X pins σ Q (.bool k') s := fun {k'} q => ⟨.bl k', H, I, rfl, q⟩
  unfold cmpP at e
  split at e
  · split at e
    · rename_i hz
      cases e
      obtain ⟨pp, pq, hd⟩ := cmpOk_ok hz
      exact (rcAt_pv _ p q X.A (Nat.le_refl _) (PR.hr I sub pp hp rx) (PR.hr I sub pq hq ry) pp pq (by omega)).1 _ _ _ _ (fin k)
    · cases e
  · split at e
    · rename_i hz
      cases e
      obtain ⟨pp, pq, hd⟩ := cmpOk_ok hz
      exact rcNe_pv p q X.A (PR.hr I sub pp hp rx) (PR.hr I sub pq hq ry) pp pq (by omega) _ _ _ _ (fin k)
    · cases e
  · unfold ltP at e
    split at e
    · cases e; cases hp; cases hq
      exact op_lt pins s σ H _ _ v u Q I rx ry ⟨_, _, rfl, rfl, k⟩
    · cases e; cases hp; cases hq
      exact op_lt_str pins s σ H _ _ v u Q I rx ry ⟨_, _, rfl, rfl, k⟩
    · cases e
  · unfold ltP at e
    split at e
    · cases e; cases hp; cases hq
      exact op_gt pins s σ H _ _ v u Q I rx ry ⟨_, _, rfl, rfl, k⟩
    · cases e; cases hp; cases hq
      exact op_gt_str pins s σ H _ _ v u Q I rx ry ⟨_, _, rfl, rfl, k⟩
    · cases e
  · cases e; cases hp; cases hq
    exact op_le pins s σ H _ _ v u Q I rx ry ⟨_, _, rfl, rfl, k⟩
  · cases e; cases hp; cases hq
    exact op_ge pins s σ H _ _ v u Q I rx ry ⟨_, _, rfl, rfl, k⟩
  · cases e; cases hp; cases hq
    exact op_le_str pins s σ H _ _ v u Q I rx ry ⟨_, _, rfl, rfl, k⟩
  · cases e; cases hp; cases hq
    exact op_ge_str pins s σ H _ _ v u Q I rx ry ⟨_, _, rfl, rfl, k⟩
  · cases e; cases hq
    exact op_isN pins s σ H _ _ v u Q I rx ry ⟨rfl, by rw [hp.non_iff]; exact k⟩
  · cases e; cases hq
    exact op_notN pins s σ H _ _ v u Q I rx ry ⟨rfl, by rw [hp.non_iff]; exact k⟩
  · exact op_inP hu false pins s σ H x y v u Q I rx ry ⟨F, p, q, b, sub, hp, hq, by show Option.map _ (inP p q) = _; rw [e]; rfl, k⟩
  · refine op_inP hu true pins s σ H x y v u Q I rx ry ⟨F, p, q, b, sub, hp, hq, ?_, k⟩
    exact e
  · cases e
end
end Bd

namespace Bd
open PySem L2
section
variable {X : Cx}

theorem atI_rep {g : Gx} {F : Hp} {xs : List PV} {vs : List V} (h : Reps g F xs vs) {i : Int} {p : PV} (e : atI xs i = some p) : ∃ v, atI vs i = some v ∧ Rep g F p v := by
  unfold atI at e ⊢
  rw [h.length]
  cases q : ixN xs.length i with
  | none => rw [q] at e; cases e
  | some j =>
    rw [q] at e
    exact h.get (i := j) e
/-- an item: what lies in a thing is fixed -/
def rX2 (g : Gx) (f : PV → PV → Option PV) : R2 := fun x y H Q => ∃ F p q r, Same F H ∧ PR g F H p x ∧ PR g F H q y ∧ f p q = some r ∧ ∀ v, Rep g F r v → Q v H
theorem ix_pv : IxR X (rX2 (gx X) ixP) := by
  intro value slice pins s σ H x y v u Q I rx ry h hs
  obtain ⟨F, p, q, r, sub, hp, hq, e, k⟩ := h
  refine ix_seq value slice pins s σ H x y v u Q I rx ry ?_ hs
  unfold ixP at e
  split at e
  · obtain ⟨a, vs, rfl, h1, h2⟩ := hp
    cases hq
    obtain ⟨w, e1, e2⟩ := atI_rep h2 e
    exact .inl ⟨a, vs, _, w, rfl, rfl, .inl (.inl h1), e1, k _ e2⟩
  · obtain ⟨a, vs, rfl, h1, h2⟩ := hp
    cases hq
    obtain ⟨w, e1, e2⟩ := atI_rep h2 e
    exact .inr (.inl ⟨a, vs, _, w, rfl, rfl, Same.tseq sub h1, e1, k _ e2⟩)
  · split at e
    · rename_i hz
      cases hp; cases hq
      obtain ⟨c, e1, e2⟩ := Option.map_eq_some_iff.mp e
      subst e2
      exact .inr (.inr ⟨_, _, c, rfl, rfl, hz, e1, k _ rfl⟩)
    · cases e
  · cases e
def rS2 (g : Gx) : V → Option Int → Option Int → Hp → VK → Prop := fun x lo hi H Q => ∃ F p r, Same F H ∧ PR g F H p x ∧ slP p lo hi = some r ∧ ∀ v F' H', NewV g F H F' H' r v → Q v H'
theorem cutP_all {xs : List PV} {lo hi : Option Int} (h : HT.sIx xs.length 0 lo = 0 ∧ HT.sIx xs.length xs.length hi = xs.length) : cutP xs lo hi = xs := by
  unfold cutP
  rw [h.1, h.2]
  simp
theorem sl_pv : SlR X (rS2 (gx X)) := by
  intro pins s σ H x v vl vu lo hi sl Q I rx hs pl pu h
  obtain ⟨F, p, r, sub, hp, e, k⟩ := h
  unfold slP at e
  split at e
  · cases e
    obtain ⟨a, vs, rfl, h1, h2⟩ := hp
    exact sl_list pins s σ H _ v vl vu _ _ sl Q I rx hs pl pu ⟨a, vs, rfl, .inl (.inl h1), fun p n => k _ _ _ (NewV.lst sub n (cutP_reps h2 _ _))⟩
  · cases e
    obtain ⟨a, vs, rfl, h1, h2⟩ := hp
    exact sl_list pins s σ H _ v vl vu _ _ sl Q I rx hs pl pu ⟨a, vs, rfl, Same.seq sub h1, fun p n => k _ _ _ (NewV.lst sub n (cutP_reps h2 _ _))⟩
  · cases e
    obtain ⟨a, vs, rfl, h1, h2⟩ := hp
    have hl := h2.length
    refine sl_tupA pins s σ H _ v vl vu _ _ sl Q I rx hs pl pu ⟨a, vs, rfl, Same.tseq sub h1, fun hw => ?_, fun hw p n => ?_⟩
    · rw [hl] at hw
      refine k _ F H (NewV.flat sub rfl ⟨a, vs, rfl, h1, ?_⟩)
      rw [cutP_all hw]; exact h2
    · exact k _ _ _ (NewV.tup sub n (cutP_reps h2 _ _))
  · split at e
    · rename_i hz
      cases e
      cases hp
      exact sl_str pins s σ H _ v vl vu _ _ sl Q I rx hs pl pu ⟨_, rfl, hz, k _ F H (NewV.flat sub rfl rfl)⟩
    · cases e
  · cases e

/-! ### truth -/
theorem isEmpty_len {α β : Type} {xs : List α} {ys : List β} (h : ys.length = xs.length) : ys.isEmpty = xs.isEmpty := by
  cases xs <;> cases ys <;> simp_all
theorem truth_pv {g : Gx} {F H : Hp} {p : PV} {x : V} {k : Bool} (sub : Same F H) (h : PR g F H p x) (e : truth p = some k) : TruV g.K x H k := by
  unfold truth at e
  split at e
  · cases e; cases h; rfl
  · cases e; cases h; rfl
  · cases e; cases h; rfl
  · split at e
    · rename_i hz; cases e; cases h; exact ⟨hz, rfl⟩
    · cases e
  · cases e
    obtain ⟨a, vs, rfl, h1, h2⟩ := h
    exact .inr (.inl ⟨vs, Same.tseq sub h1, by rw [isEmpty_len h2.length]⟩)
  · cases e
    obtain ⟨a, vs, rfl, h1, h2⟩ := h
    exact .inl ⟨vs, .inl (.inl h1), by rw [isEmpty_len h2.length]⟩
  · cases e

/-! ### built-in functions -/
theorem allInts_reps {g : Gx} {F : Hp} : ∀ {xs : List PV} {vs : List V} {ns : List Int}, Reps g F xs vs → allInts xs = some ns → vs = ns.map V.int
  | [], _, _, h, e => by cases h; cases e; rfl
  | x :: xs, _, ns, h, e => by
    obtain ⟨v, r, rfl, h1, h2⟩ := h
    cases x with
    | int i =>
      obtain ⟨ms, e1, e2⟩ := Option.map_eq_some_iff.mp (show (allInts xs).map (i :: ·) = some ns from e)
      subst e2
      cases h1
      rw [allInts_reps h2 e1]; rfl
    | _ => cases e
theorem allBls_reps {g : Gx} {F : Hp} : ∀ {xs : List PV} {vs : List V} {ns : List Bool}, Reps g F xs vs → allBls xs = some ns → vs = ns.map V.bl
  | [], _, _, h, e => by cases h; cases e; rfl
  | x :: xs, _, ns, h, e => by
    obtain ⟨v, r, rfl, h1, h2⟩ := h
    cases x with
    | bl i =>
      obtain ⟨ms, e1, e2⟩ := Option.map_eq_some_iff.mp (show (allBls xs).map (i :: ·) = some ns from e)
      subst e2
      cases h1
      rw [allBls_reps h2 e1]; rfl
    | _ => cases e
theorem allStrs_reps {g : Gx} {F : Hp} : ∀ {xs : List PV} {vs : List V} {ns : List Str}, Reps g F xs vs → allStrs xs = some ns → vs = ns.map V.str
  | [], _, _, h, e => by cases h; cases e; rfl
  | x :: xs, _, ns, h, e => by
    obtain ⟨v, r, rfl, h1, h2⟩ := h
    cases x with
    | str i =>
      obtain ⟨ms, e1, e2⟩ := Option.map_eq_some_iff.mp (show (allStrs xs).map (i :: ·) = some ns from e)
      subst e2
      cases h1
      rw [allStrs_reps h2 e1]; rfl
    | _ => cases e
theorem PRs.one {g : Gx} {F H : Hp} {p : PV} {xs : List V} (h : PRs g F H [p] xs) : ∃ x, xs = [x] ∧ PR g F H p x := by
  obtain ⟨v, r, rfl, h1, h2⟩ := h
  cases h2
  exact ⟨v, rfl, h1⟩
theorem PRs.two {g : Gx} {F H : Hp} {p q : PV} {xs : List V} (h : PRs g F H [p, q] xs) : ∃ x y, xs = [x, y] ∧ PR g F H p x ∧ PR g F H q y := by
  obtain ⟨v, r, rfl, h1, h2⟩ := h
  obtain ⟨w, rfl, h3⟩ := h2.one
  exact ⟨v, w, rfl, h1, h3⟩
theorem tyName_ok {F H : Hp} {K : PySem.W.Frag} {mg : Str → Option Value} {p : PV} {x : V} {T : TyN} (sub : Same F H) (h : PR ⟨K, mg⟩ F H p x) (e : tyName p = some T) : TyX K H x (.type T.name) := by
  cases p with
  | non => cases e; cases h; exact .base .non
  | bl b => cases e; cases h; exact .base (.bl _)
  | int b => cases e; cases h; exact .base (.int _)
  | str b => cases e; cases h; exact .base (.str _)
  | lst xs => cases e; obtain ⟨a, vs, rfl, h1, _⟩ := h; exact .base (.lst h1)
  | tup xs =>
    cases e
    obtain ⟨a, vs, rfl, h1, _⟩ := h
    rcases Same.tseq sub h1 with (h2 | ⟨o, h2⟩) | ⟨o, its, n, h2, h3, _⟩
    · exact .base (.tup h2)
    · exact .fTuple h2
    · exact .kTuple h2 h3
  | _ => cases e
theorem kitB_sub (T c : TyN) : kitB T.name c.name = some (isSub T c) := by
  cases T <;> cases c <;> decide +kernel
theorem isiAny_ok {K : PySem.W.Frag} {T : TyN} {g : Gx} {F : Hp} : ∀ {xs : List PV} {vs : List V} {b : Bool}, Reps g F xs vs → isiAny T xs = some b → ∃ us, Paired ClsV vs us ∧ PySem.W.kitAny K (.type T.name) us = some b
  | [], _, b, h, e => by cases h; cases e; exact ⟨[], .nil, rfl⟩
  | x :: xs, _, b, h, e => by
    obtain ⟨v, r, rfl, h1, h2⟩ := h
    cases x with
    | ty c =>
      cases h1
      obtain ⟨b', e1, e2⟩ := Option.map_eq_some_iff.mp (show (isiAny T xs).map (isSub T c || ·) = some b from e)
      subst e2
      obtain ⟨us, p1, k1⟩ := isiAny_ok h2 e1
      refine ⟨.type c.name :: us, .cons (.ty _) p1, kitAny_cons (b := isSub T c) (kit_ty (kitB_sub T c)) (fun z => ?_) (fun z => ?_)⟩
      · rw [z, k1]; rfl
      · rw [z]; rfl
    | _ => cases e
theorem isi_tup : CallR X (.builtin "isinstance") (fun xs H Q => ∃ (x : V) (tp : Addr) (cs : List V) (t : Value) (ws : List Value) (b : Bool), xs = [x, .ref tp] ∧ SqT X.K H tp cs ∧ Paired ClsV cs ws ∧ TyX X.K H x t ∧ PySem.W.kitAny X.K t ws = some b ∧ Q (.bl b) H) := by
  intro pins s σ H xs us Q I r h
  obtain ⟨x, tp, cs, t, ws, b, rfl, hT, k, ty, e, q⟩ := h
  obtain ⟨u1, u2, rfl, r1, r2⟩ := vals2 r
  cases (show u2 = Value.ref tp from r2)
  obtain ⟨P, Z, p, hx⟩ := kit_of I r1 ty
  obtain ⟨its, rv, ⟨⟨oc, od, dt, sl⟩, h1, h2, n, h3⟩, _⟩ := I.tuple hT
  have e3 := ClsV.all k rv
  subst e3
  simp only at h2 h3
  subst h2 h3
  exact PySem.W.kia_tup Z I.kIn p h1 e hx fun tk => ⟨.bl b, H, I.tok tk, rfl, q⟩
def bltV : Blt → Value
  | .len => .builtin "len"
  | .abs => .builtin "abs"
  | .max => .builtin "max"
  | .min => .builtin "min"
  | .int => .type "int"
  | .str => .type "str"
  | .all => .builtin "all"
  | .any => .builtin "any"
  | .list => .type "list"
  | .tuple => .type "tuple"
  | .isinstance => .builtin "isinstance"
  | .sum => .builtin "sum"
  | .sorted => .builtin "sorted"
  | .set => .type "set"
  | .dict => .type "dict"
theorem call_blt (hc : X.calm = true) (f : Blt) : CallR X (bltV f) (rPs (gx X) (bltP f)) := by
  intro pins s σ H xs us Q I rv h
  obtain ⟨F, ps, r, sub, hp, e, k⟩ := h
  have fl : ∀ {r : PV} {v : V}, flOf r = .fz → Rep (gx X) F r v → NewV (gx X) F H F H r v := fun h1 h2 => NewV.flat sub h1 h2
  unfold bltP at e
  split at e
  · cases e
    obtain ⟨x, rfl, hx⟩ := hp.one
    obtain ⟨a, vs, rfl, h1, h2⟩ := hx
    refine call_len_seq pins s σ H _ us Q I rv ⟨a, vs, rfl, .inl (.inl (.inl h1)), ?_⟩
    rw [h2.length]; exact k _ F H (fl rfl rfl)
  · cases e
    obtain ⟨x, rfl, hx⟩ := hp.one
    obtain ⟨a, vs, rfl, h1, h2⟩ := hx
    refine call_len_seq pins s σ H _ us Q I rv ⟨a, vs, rfl, .inr (Same.tseq sub h1), ?_⟩
    rw [h2.length]; exact k _ F H (fl rfl rfl)
  · split at e
    · rename_i hz
      cases e
      obtain ⟨x, rfl, hx⟩ := hp.one
      cases hx
      exact call_len_str pins s σ H _ us Q I rv ⟨_, rfl, hz, k _ F H (fl rfl rfl)⟩
    · cases e
  · cases e
    obtain ⟨x, rfl, hx⟩ := hp.one
    cases hx
    exact call_abs pins s σ H _ us Q I rv ⟨_, rfl, k _ F H (fl rfl rfl)⟩
  · cases e
    obtain ⟨x, y, rfl, hx, hy⟩ := hp.two
    cases hx; cases hy
    exact call_max2 hc pins s σ H _ us Q I rv ⟨_, _, rfl, k _ F H (fl rfl rfl)⟩
  · cases e
    obtain ⟨x, y, rfl, hx, hy⟩ := hp.two
    cases hx; cases hy
    exact call_min2 hc pins s σ H _ us Q I rv ⟨_, _, rfl, k _ F H (fl rfl rfl)⟩
  · cases e
    obtain ⟨x, rfl, hx⟩ := hp.one
    cases hx
    exact call_int1 pins s σ H _ us Q I rv (.inl ⟨_, rfl, k _ F H (fl rfl rfl)⟩)
  · cases e
    obtain ⟨x, rfl, hx⟩ := hp.one
    cases hx
    exact call_int1 pins s σ H _ us Q I rv (.inr ⟨_, rfl, k _ F H (fl rfl rfl)⟩)
  · split at e
    · rename_i hz
      obtain ⟨n, e1, e2⟩ := Option.map_eq_some_iff.mp e
      subst e2
      obtain ⟨x, rfl, hx⟩ := hp.one
      cases hx
      exact call_int_str pins s σ H _ us Q I rv ⟨_, n, rfl, e1, hz, k _ F H (fl rfl rfl)⟩
    · cases e
  · split at e
    · rename_i hz
      cases e
      obtain ⟨x, rfl, hx⟩ := hp.one
      cases hx
      exact call_str_int pins s σ H _ us Q I rv ⟨_, rfl, hz, k _ F H (fl rfl rfl)⟩
    · cases e
  · obtain ⟨bs, e1, e2⟩ := Option.map_eq_some_iff.mp e
    subst e2
    obtain ⟨x, rfl, hx⟩ := hp.one
    obtain ⟨a, vs, rfl, h1, h2⟩ := hx
    refine cr_all hc pins s σ H _ us Q I rv ⟨a, bs, rfl, ?_, k _ F H (fl rfl rfl)⟩
    rw [← allBls_reps h2 e1]; exact .inl (.inl h1)
  · obtain ⟨bs, e1, e2⟩ := Option.map_eq_some_iff.mp e
    subst e2
    obtain ⟨x, rfl, hx⟩ := hp.one
    obtain ⟨a, vs, rfl, h1, h2⟩ := hx
    refine cr_any hc pins s σ H _ us Q I rv ⟨a, bs, rfl, ?_, k _ F H (fl rfl rfl)⟩
    rw [← allBls_reps h2 e1]; exact .inl (.inl h1)
  · obtain ⟨bs, e1, e2⟩ := Option.map_eq_some_iff.mp e
    subst e2
    obtain ⟨x, rfl, hx⟩ := hp.one
    obtain ⟨a, vs, rfl, h1, h2⟩ := hx
    refine cr_sum hc pins s σ H _ us Q I rv ⟨a, bs, rfl, ?_, k _ F H (fl rfl rfl)⟩
    rw [← allInts_reps h2 e1]; exact .inl (.inl h1)
  · obtain ⟨bs, e1, e2⟩ := Option.map_eq_some_iff.mp e
    subst e2
    obtain ⟨x, rfl, hx⟩ := hp.one
    unfold seqOf at e1
    split at e1
    · cases e1
      obtain ⟨a, vs, rfl, h1, h2⟩ := hx
      exact call_list_of pins s σ H _ us Q I rv ⟨a, vs, rfl, .inl (.inl (.inl h1)), fun l n => k _ _ _ (NewV.lst sub n h2)⟩
    · cases e1
      obtain ⟨a, vs, rfl, h1, h2⟩ := hx
      exact call_list_of pins s σ H _ us Q I rv ⟨a, vs, rfl, .inr (Same.tseq sub h1), fun l n => k _ _ _ (NewV.lst sub n h2)⟩
    · cases e1
  · obtain ⟨bs, e1, e2⟩ := Option.map_eq_some_iff.mp e
    subst e2
    obtain ⟨x, rfl, hx⟩ := hp.one
    unfold seqOf at e1
    split at e1
    · cases e1
      obtain ⟨a, vs, rfl, h1, h2⟩ := hx
      exact call_tuple_of pins s σ H _ us Q I rv ⟨a, vs, rfl, .inl ⟨.inl (.inl h1), fun l n => k _ _ _ (NewV.tup sub n h2)⟩⟩
    · cases e1
      obtain ⟨a, vs, rfl, h1, h2⟩ := hx
      exact call_tuple_of pins s σ H _ us Q I rv ⟨a, vs, rfl, .inr ⟨Same.tseq sub h1, k _ F H (fl rfl ⟨a, vs, rfl, h1, h2⟩)⟩⟩
    · cases e1
  · obtain ⟨b, e1, e2⟩ := Option.map_eq_some_iff.mp e
    subst e2
    obtain ⟨x, y, rfl, hx, hy⟩ := hp.two
    unfold isiP at e1
    split at e1
    · obtain ⟨T, e3, e4⟩ := Option.map_eq_some_iff.mp e1
      subst e4
      cases hy
      exact call_isi pins s σ H _ us Q I rv ⟨x, _, _, _, _, rfl, .ty _, tyName_ok sub hx e3, kit_ty (kitB_sub T _), k _ F H (fl rfl rfl)⟩
    · obtain ⟨T, e3, e4⟩ := Option.bind_eq_some_iff.mp e1
      obtain ⟨a, vs, rfl, h1, h2⟩ := hy
      obtain ⟨ws, p1, k1⟩ := isiAny_ok (K := X.K) h2 e4
      exact isi_tup pins s σ H _ us Q I rv ⟨x, a, vs, _, ws, _, rfl, Same.tseq sub h1, p1, tyName_ok sub hx e3, k1, k _ F H (fl rfl rfl)⟩
    · cases e1
  · cases e
/-! ### methods -/
def rM (g : Gx) (m : Mth) : V → List V → Hp → VK → Prop := fun x xs H Q => ∃ F p ps r, Same F H ∧ PR g F H p x ∧ PRs g F H ps xs ∧ mthP m p ps = some r ∧ ∀ v F' H', NewV g F H F' H' r v → Q v H'
theorem strs_reps {g : Gx} {F : Hp} : ∀ ys : List Str, Reps g F (ys.map PV.str) (ys.map V.str)
  | [] => rfl
  | y :: ys => ⟨_, _, rfl, rfl, strs_reps ys⟩
theorem mt_splitP : MtR X "str.split" (rM (gx X) .split) := by
  intro pins s σ H x xs v us Q I rx rv h
  obtain ⟨F, p, ps, r, sub, hp, hps, e, k⟩ := h
  unfold mthP at e
  split at e
  · split at e
    · cases e
    · rename_i hz
      cases e
      obtain ⟨y, rfl, hy⟩ := hps.one
      cases hp; cases hy
      refine mt_split pins s σ H _ _ v us Q I rx rv ⟨_, _, rfl, rfl, ?_, by omega, fun p n => k _ _ _ (NewV.lst sub n (strs_reps _))⟩
      have : ¬ _ := fun q => hz (.inl q)
      simpa using this
  · rename_i hm; cases hm
  · cases e
theorem mt_joinP : MtR X "str.join" (rM (gx X) .join) := by
  intro pins s σ H x xs v us Q I rx rv h
  obtain ⟨F, p, ps, r, sub, hp, hps, e, k⟩ := h
  unfold mthP at e
  split at e
  · rename_i hm; cases hm
  · obtain ⟨zs, e1, e2⟩ := Option.bind_eq_some_iff.mp e
    obtain ⟨ys, e3, e4⟩ := Option.bind_eq_some_iff.mp e2
    split at e4
    · rename_i hz
      cases e4
      obtain ⟨y, rfl, hy⟩ := hps.one
      cases hp
      unfold seqOf at e1
      split at e1
      · cases e1
        obtain ⟨a, vs, rfl, h1, h2⟩ := hy
        refine mt_join pins s σ H _ _ v us Q I rx rv ⟨_, a, ys, rfl, rfl, .inl ?_, hz, k _ F H (NewV.flat sub rfl rfl)⟩
        rw [← allStrs_reps h2 e3]; exact .inl (.inl h1)
      · cases e1
        obtain ⟨a, vs, rfl, h1, h2⟩ := hy
        refine mt_join pins s σ H _ _ v us Q I rx rv ⟨_, a, ys, rfl, rfl, .inr ?_, hz, k _ F H (NewV.flat sub rfl rfl)⟩
        rw [← allStrs_reps h2 e3]; exact Same.tseq sub h1
      · cases e1
    · cases e4
  · cases e
end
end Bd

namespace Bd
open PySem L2

/-! ### readings -/
def FRep (g : Gx) (F : Hp) : List (Str × PV) → List (Str × V) → Prop
  | [], fs => fs = []
  | (x, p) :: r, fs => ∃ v q, fs = (x, v) :: q ∧ Rep g F p v ∧ FRep g F r q
/-- an exception of the program's own -/
def XR (g : Gx) (F H : Hp) (x : PX) (cls : Value) (d : Option Addr) : Prop :=
  ∃ C a fs, g.mg x.cls = some (.ref C) ∧ cls = .ref C ∧ d = some a ∧ H a = some (.xd fs) ∧ FRep g F x.flds fs
/-- what is known behind a step of the pure run: R a value and its form in the heap; the fixed part has only grown since F0 -/
def Rd {α β : Type} (g : Gx) (W : WX) (G : Ent) (σ : L2.St) (F0 : Hp) (R : α → En → β → Hp → Hp → Prop) (m : Out α) (Q : β → Hp → Prop) : Prop :=
  match m with
  | .ok a e => ∀ b F H, Same F0 F → Sx g G e σ F H → R a e b F H → Q b H
  | .exc x e => ∀ cls d F H, Same F0 F → Sx g G e σ F H → XR g F H x cls d → W cls d σ H
  | .bad => False
theorem Rd.at {α β : Type} {g : Gx} {W : WX} {G : Ent} {σ : L2.St} {F0 F1 : Hp} {R : α → En → β → Hp → Hp → Prop} {m : Out α} {Q : β → Hp → Prop} (h : Rd g W G σ F0 R m Q) (s : Same F0 F1) : Rd g W G σ F1 R m Q := by
  cases m with
  | ok a e => exact fun b F H s1 => h b F H (s.trans s1)
  | exc x e => exact fun c d F H s1 => h c d F H (s.trans s1)
  | bad => exact h
theorem Rd.bind {α β γ δ : Type} {g : Gx} {W : WX} {G : Ent} {σ : L2.St} {F0 : Hp} {R : α → En → β → Hp → Hp → Prop} {S : γ → En → δ → Hp → Hp → Prop} {m : Out α} {k : α → En → Out γ} {Q : δ → Hp → Prop} {Q' : β → Hp → Prop}
    (h : Rd g W G σ F0 S (m.bind k) Q) (f : ∀ a e b F H, Same F0 F → Sx g G e σ F H → R a e b F H → Rd g W G σ F S (k a e) Q → Q' b H) : Rd g W G σ F0 R m Q' := by
  cases m with
  | ok a e => exact fun b F H sm s r => f a e b F H sm s r (Rd.at h sm)
  | exc x e => exact h
  | bad => exact h
/-- the two ways a value is asked -/
abbrev RV (g : Gx) (G : Ent) (σ : L2.St) : PV × Fl → En → V → Hp → Hp → Prop := fun r e v F H => VR g G e σ F H r v
abbrev RB : Bool → En → Bool → Hp → Hp → Prop := fun b _ c _ _ => c = b
def OR (g : Gx) (σ : L2.St) (F : Hp) : Opd → V → Prop
  | .val p, v => Rep g F p v
  | .slot i, v => σ[i]? = some (some v)
abbrev RO (g : Gx) (σ : L2.St) : Opd → En → V → Hp → Hp → Prop := fun o _ v F _ => OR g σ F o v
def ORs (g : Gx) (σ : L2.St) (F : Hp) : List Opd → List V → Prop
  | [], vs => vs = []
  | o :: os, vs => ∃ v r, vs = v :: r ∧ OR g σ F o v ∧ ORs g σ F os r
abbrev ROs (g : Gx) (σ : L2.St) : List Opd → En → List V → Hp → Hp → Prop := fun o _ v F _ => ORs g σ F o v
abbrev RF (g : Gx) : List PV → En → List V → Hp → Hp → Prop := fun ps _ vs F _ => Reps g F ps vs
abbrev RP : Option Int → En → Option Int → Hp → Hp → Prop := fun b _ c _ _ => c = b

def tG {α β : Type} (g : Gx) (W : WX) (R : Ent → L2.St → α → En → β → Hp → Hp → Prop) (f : En → Out α) : L2.St → Hp → (β → Hp → Prop) → Prop :=
  fun σ H Q => ∃ G env F, Sx g G env σ F H ∧ Rd g W G σ F (R G σ) (f env) Q
abbrev tE (g : Gx) (W : WX) (f : En → Out (PV × Fl)) : TE := tG g W (fun G σ => RV g G σ) f
abbrev tT (g : Gx) (W : WX) (f : En → Out Bool) : TT := tG g W (fun _ _ => RB) f
abbrev tO (g : Gx) (W : WX) (f : En → Out Opd) : TE := tG g W (fun _ σ => RO g σ) f
abbrev tOs (g : Gx) (W : WX) (f : En → Out (List Opd)) : TA := tG g W (fun _ σ => ROs g σ) f
abbrev tF (g : Gx) (W : WX) (f : En → Out (List PV)) : TA := tG g W (fun _ _ => RF g) f
abbrev tP (g : Gx) (W : WX) (f : En → Out (Option Int)) : TO := tG g W (fun _ _ => RP) f

theorem _root_.L2.PE.imp {X : Cx} {e : Expr} {t t' : TE} (h : PE X e t) (k : ∀ σ H Q, t' σ H Q → t σ H Q) : PE X e t' := ⟨fun pins s σ H Q I q => h.run pins s σ H Q I (k σ H Q q)⟩
theorem _root_.L2.PE.weak {X : Cx} {e : Expr} {t : TE} (h : PE X e t) : PE X e (fun σ H Q => ∃ Q0 : VK, t σ H Q0 ∧ ∀ x H', Q0 x H' → Q x H') :=
  ⟨fun pins s σ H Q I q => by
    obtain ⟨Q0, q0, k⟩ := q
    exact thn (h.run pins s σ H Q0 I q0) fun v s1 ⟨x, H1, I1, r1, q1⟩ => ⟨x, H1, I1, r1, k _ _ q1⟩⟩
theorem _root_.L2.PT.imp {X : Cx} {e : Expr} {t t' : TT} (h : PT X e t) (k : ∀ σ H Q, t' σ H Q → t σ H Q) : PT X e t' := ⟨fun pins s σ H Q I q => h.run pins s σ H Q I (k σ H Q q)⟩
theorem _root_.L2.PW.imp {X : Cx} {e : Expr} {t t' : TT} (h : PW X e t) (k : ∀ σ H Q, t' σ H Q → t σ H Q) : PW X e t' := ⟨fun wh pins s σ H Q I q => h.run wh pins s σ H Q I (k σ H Q q)⟩
theorem _root_.L2.PA.imp {X : Cx} {e : List Expr} {t t' : TA} (h : PA X e t) (k : ∀ σ H Q, t' σ H Q → t σ H Q) : PA X e t' := ⟨fun pos pins s σ H Q I q => h.run pos pins s σ H Q I (k σ H Q q)⟩
theorem _root_.L2.PO.imp {X : Cx} {e : Option Expr} {t t' : TO} (h : PO X e t) (k : ∀ σ H Q, t' σ H Q → t σ H Q) : PO X e t' := ⟨fun pins s σ H Q I q => h.run pins s σ H Q I (k σ H Q q)⟩

section
variable {g : Gx} {G : Ent} {env : En} {σ : L2.St} {F H F' H' : Hp}
/-- a slot, read -/
theorem Sx.peek (S : Sx g G env σ F H) {i : Nat} {p : PV} {fl : Fl} (e : env[i]? = some (some (p, fl))) : ∃ v, σ[i]? = some (some v) ∧ PR g F H p v := by
  by_cases hf : fl = .fz
  · subst hf
    obtain ⟨v, e1, r⟩ := S.fz i p e
    exact ⟨v, e1, r.pr S.sub⟩
  · obtain ⟨a, e1, _, o, _⟩ := S.own i p fl e hf
    exact ⟨_, e1, o.pr⟩
theorem Sx.rs (S : Sx g G env σ F H) {o : Opd} {p : PV} {v : V} (e : rsO env o = some p) (r : OR g σ F o v) : PR g F H p v := by
  cases o with
  | val q => cases e; exact Rep.pr S.sub r
  | slot i =>
    have e0 : (match env[i]? with
      | some (some (p, _)) => some p
      | _ => none) = some p := e
    split at e0
    · rename_i q fl h
      cases e0
      obtain ⟨w, e1, e2⟩ := S.peek h
      have r' : σ[i]? = some (some v) := r
      rw [e1] at r'; cases r'
      exact e2
    · cases e0
theorem Sx.rss (S : Sx g G env σ F H) : ∀ {os : List Opd} {ps : List PV} {vs : List V}, rsOs env os = some ps → ORs g σ F os vs → PRs g F H ps vs
  | [], _, _, e, r => by cases e; cases r; rfl
  | o :: os, _, _, e, r => by
    obtain ⟨p, e1, e2⟩ := Option.bind_eq_some_iff.mp (show (rsO env o).bind (fun p => (rsOs env os).map (p :: ·)) = _ from e)
    obtain ⟨ps, e3, e4⟩ := Option.map_eq_some_iff.mp e2
    subst e4
    obtain ⟨v, vr, rfl, r1, r2⟩ := r
    exact ⟨v, vr, rfl, S.rs e1 r1, S.rss e3 r2⟩
theorem OR.mono (sF : Same F F') : ∀ {o : Opd} {v : V}, OR g σ F o v → OR g σ F' o v
  | .val p, _, h => Rep.mono sF p h
  | .slot _, _, h => h
theorem Sx.new (S : Sx g G env σ F H) {r : PV} {v : V} (h : NewV g F H F' H' r v) : Sx g G env σ F' H' ∧ VR g G env σ F' H' (r, flOf r) v := by
  obtain ⟨n, h⟩ := h
  refine ⟨S.grow n.sF n.sH n.sub n.nf, ?_⟩
  unfold VR
  cases q : flOf r with
  | fz => rw [q] at h; exact h
  | bor => cases r <;> cases q
  | own =>
    rw [q] at h
    obtain ⟨a, e1, e2, e3, e4⟩ := h
    refine ⟨a, e1, e3, e4, ?_, fun i p hi hf z => ?_⟩
    · cases w : G.H a with
      | none => rfl
      | some o =>
        obtain ⟨o', e⟩ := S.th a o w
        rw [e2] at e; cases e
    · obtain ⟨b, e5, _, o, _⟩ := S.own i p.1 p.2 hi hf
      rw [z] at e5; cases e5
      obtain ⟨ob, e6⟩ := o.here
      rw [e2] at e6; cases e6
/-- a value is fixed -/
theorem Sx.fix (S : Sx g G env σ F H) {r : PV × Fl} {v : V} (h : VR g G env σ F H r v) : ∃ F', Sx g G env σ F' H ∧ Rep g F' r.1 v ∧ Same F F' := by
  obtain ⟨p, fl⟩ := r
  cases fl with
  | fz => exact ⟨F, S, h, .refl _⟩
  | bor => exact h.elim
  | own =>
    obtain ⟨a, rfl, e2, e3, e4, e5⟩ := h
    obtain ⟨o, e⟩ := e3.here
    exact ⟨upd F a o, S.freeze e e2 (.inl e4) e5, e3.rep e e2, same_upd e2⟩
end

/-! ### the check that the small language is the text's -/
def isStar : Expr → Bool
  | .Starred .. => true
  | _ => false
def isSetX : Expr → Bool
  | .Set .. => true
  | _ => false
def isSliceX : Expr → Bool
  | .Slice .. => true
  | _ => false
def isLC : Expr → Bool
  | .ListComp .. => true
  | .SetComp .. => true
  | .DictComp .. => true
  | _ => false
/-- a test by its value's truth alone -/
def plainTest : Expr → Bool
  | .UnaryOp .. => false
  | .BoolOp .. => false
  | .IfExp .. => false
  | .Compare .. => false
  | _ => true
/-- super() is not there -/
def plainBase : Expr → Bool
  | .Call (.Name _ _) [] [] _ => false
  | _ => true
def visB (sc : Scope) (x : Str) : Bool :=
  (match sc.names.lookup x with
  | some .local => true
  | some .cell => true
  | some .free => true
  | _ => false) && !(x == ("__debug__" : Str)) && !(x == ("__classdict__" : Str))
def glB (sc : Scope) (x : Str) : Bool :=
  (match sc.names.lookup x with
  | some .globalImplicit => true
  | _ => false) && !(x == ("__debug__" : Str))
def tyStr : TyN → Str
  | .none => "NoneType"
  | .bool => "bool"
  | .int => "int"
  | .str => "str"
  | .tuple => "tuple"
  | .list => "list"
  | .dict => "dict"
  | .set => "set"
def locB (sc : Scope) (fnb : Str → Bool) (x : Str) : Bool :=
  (match sc.names.lookup x with
  | some .local => true
  | some .cell => fnb x
  | _ => false)
def chkNames (N : List Str) (sc : Scope) (fnb : Str → Bool) : List Nat → List Expr → Bool
  | [], [] => true
  | i :: is, .Name x _ :: es => decide (N[i]? = some x) && locB sc fnb x && chkNames N sc fnb is es
  | _, _ => false
def chkG (N : List Str) (sc : Scope) (fnb : Str → Bool) : IG → Expr → Bool
  | .nm i, .Name x _ => decide (N[i]? = some x) && locB sc fnb x
  | .tup is, .Tuple es _ _ => chkNames N sc fnb is es
  | _, _ => false
/-- the names that a comprehension's scope has of its own, with their slots -/
def ownOf (N : List Str) (own : List Nat) : List (Str × Nat) := own.filterMap fun i => (N[i]?).map fun x => (x, i)
def subSet (a b : List Nat) : Bool := a.all fun i => b.contains i
def slotsG : IG → List Nat
  | .nm i => [i]
  | .tup is => is

def mthOk : Mth → Bool
  | .split => true
  | .join => true
  | _ => false
def isNo : IE → Bool
  | .no => true
  | _ => false
def isTup : Expr → Bool
  | .Tuple .. => true
  | _ => false
/-- f(..) of a built-in name, no keywords -/
def callOf (y : Str) (sc : Scope) : Expr → Option (List Expr)
  | .Call (.Name x _) es [] _ => if x = y ∧ glB sc x = true then some es else none
  | _ => none
mutual
def chkM (N : List Str) : IE → Option Expr → Scope → Expr → Bool
  | .var i, none, sc, .Name x _ => decide (N[i]? = some x) && visB sc x
  | .int i, none, _, .Constant (.int j) _ _ => decide (i = j)
  | .str x, none, _, .Constant (.str y) _ _ => decide (x = y)
  | .bl b, none, _, .Constant (.bool c) _ _ => decide (b = c)
  | .non, none, _, .Constant .none _ _ => true
  | .cst x, none, sc, .Name y _ => decide (x = y) && glB sc x
  | .fnv x, none, sc, .Name y _ => decide (x = y) && glB sc x
  | .tyv t, none, sc, .Name y _ => decide (tyStr t = y) && glB sc y && !(decide (t = .none))
  | .bin op a b, none, sc, .BinOp l o r _ => decide (op = o) && chkM N a none sc l && chkM N b none sc r
  | .un op a, none, sc, .UnaryOp o l _ => decide (op = o) && chkM N a none sc l && !decide (op = .Not)
  | .not a, none, sc, .UnaryOp .Not l _ => chkM N a none sc l
  | .cmp op a b, none, sc, .Compare l [o] [r] _ => decide (op = o) && chkM N a none sc l && chkM N b none sc r && !isSetX r
  | .chn op op' a b c, none, sc, .Compare l [o, o'] [r, q] _ => decide (op = o) && decide (op' = o') && chkM N a none sc l && chkM N b none sc r && chkM N c none sc q && !isSetX r && !isSetX q
  | .and a b, none, sc, .BoolOp .And (x :: y :: r) p => chkM N a none sc x && (match r with
    | [] => chkM N b none sc y
    | z :: r => chkM N b none sc (.BoolOp .And (y :: z :: r) p))
  | .or a b, none, sc, .BoolOp .Or (x :: y :: r) p => chkM N a none sc x && (match r with
    | [] => chkM N b none sc y
    | z :: r => chkM N b none sc (.BoolOp .Or (y :: z :: r) p))
  | .ife c a b, none, sc, .IfExp t l r _ => chkM N c none sc t && chkM N a none sc l && chkM N b none sc r
  | .tup as, none, sc, .Tuple es _ _ => chkA N as sc es
  | .lst as, none, sc, .List es _ => chkA N as sc es
  | .sub a b, none, sc, .Subscript o i _ => chkM N a none sc o && chkM N b none sc i && !isSliceX i
  | .slc a lo hi, none, sc, .Subscript o (.Slice l h none _) _ => chkM N a none sc o && (match l with
    | none => isNo lo
    | some e => chkM N lo none sc e) && (match h with
    | none => isNo hi
    | some e => chkM N hi none sc e)
  | .call f as, none, sc, .Call (.Name x _) es [] _ => decide (f = x) && glB sc x && chkA N as sc es
  | .callk f n ks ap ak, none, sc, .Call (.Name x _) es (k :: kws) _ => decide (f = x) && glB sc x && chkA N ap sc es && chkK N ak sc ks (k :: kws)
  | .blt f as, none, sc, .Call (.Name x _) (e :: es) [] _ => decide (f.name = x) && glB sc x && chkA N as sc (e :: es)
  | .mth m o as, none, sc, .Call (.Attribute q x ap) [e] [] cp => mthOk m && decide (m.name = x) && chkM N o none sc q && chkA N as sc [e] && plainBase q && (ap.endLine == cp.line)
  | .comp own g it cond elt, none, sc, .ListComp e [⟨tg, iter, ifs, ay⟩] scope _ => decide (ay = 0) && chkM N it (some tg) sc iter && blkC N sc scope (ownOf N own) && decide ((ownOf N own).map (·.2) = own) && subSet (slotsG g) own
      && chkG N (relS scope sc) (fun x => scope.names.lookup x == some .cell) g tg && (match ifs with
        | [] => isNo cond
        | [c] => chkM N cond none (relS scope sc) c
        | _ => false) && chkM N elt none (relS scope sc) e && !isSetX iter
  | .seq a, some _, sc, iter => chkM N a none sc iter
  | .rng as, some _, sc, iter => (match callOf "range" sc iter with
      | some es => chkA N as sc es && decide (es.length ≤ 2)
      | none => false)
  | .enm a, some tg, sc, iter => (match callOf "enumerate" sc iter with
      | some [e] => chkM N a none sc e && !isStar e && isTup tg
      | _ => false)
  | .zip a b, some tg, sc, iter => (match callOf "zip" sc iter with
      | some [e, f] => chkM N a none sc e && chkM N b none sc f && !isStar e && !isStar f && isTup tg
      | _ => false)
  | _, _, _, _ => false
def chkA (N : List Str) : IE → Scope → List Expr → Bool
  | .nil, _, [] => true
  | .cons a r, sc, e :: es => chkM N a none sc e && !isStar e && chkA N r sc es
  | _, _, _ => false
def chkK (N : List Str) : IE → Scope → List Str → List Keyword → Bool
  | .nil, _, [], [] => true
  | .cons a r, sc, y :: ys, ⟨some x, e, _⟩ :: ks => decide (y = x) && chkM N a none sc e && chkK N r sc ys ks
  | _, _, _, _ => false
end
abbrev chkE (N : List Str) (a : IE) (sc : Scope) (e : Expr) : Bool := chkM N a none sc e
/-- what a for walks -/
abbrev chkI (N : List Str) (it : IE) (sc : Scope) (tg iter : Expr) : Bool := chkM N it (some tg) sc iter
end Bd

namespace Bd
open PySem L2

/-! ### calls -/
def AR (g : Gx) (F H : Hp) : List Bool → List PV → List V → Prop
  | [], ps, vs => ps = [] ∧ vs = []
  | m :: ms, ps, vs => ∃ p ps' v vs', ps = p :: ps' ∧ vs = v :: vs' ∧ (if m = true then ∃ a, v = .ref a ∧ F a = none ∧ OwnR g F H p a else Rep g F p v) ∧ AR g F H ms ps' vs'
/-- the addresses that a callee may change -/
def muts : List Bool → List V → List Addr
  | true :: ms, .ref a :: vs => a :: muts ms vs
  | _ :: ms, _ :: vs => muts ms vs
  | _, _ => []
def OutR (g : Gx) (F H : Hp) : List Addr → List PV → Prop
  | [], ps => ps = []
  | a :: as, ps => ∃ p r, ps = p :: r ∧ OwnR g F H p a ∧ OutR g F H as r
structure CPost (g : Gx) (F H : Hp) (as : List Addr) (outs : List PV) (F' H' : Hp) : Prop where
  sF : Same F F'
  sub : Same F' H'
  keep : ∀ a o, H a = some o → a ∉ as → H' a = some o
  th : ∀ a o, H a = some o → ∃ o', H' a = some o'
  nf : ∀ a o, H a = some o → F a = none → F' a = none
  outs : OutR g F' H' as outs
def CV (g : Gx) (H F' H' : Hp) (r : PV × Fl) (v : V) : Prop :=
  match r.2 with
  | .fz => Rep g F' r.1 v
  | .own => ∃ a, v = .ref a ∧ H a = none ∧ F' a = none ∧ OwnR g F' H' r.1 a
  | .bor => False
/-- what a def promises, by the pure run -/
def spF (g : Gx) (C : Cal) (f : Str) : Sp := fun vs H Q E => ∃ F ps ms, Same F H ∧ C.sig f = some ms ∧ AR g F H ms ps vs ∧ (muts ms vs).Nodup ∧
  (match C.run f ps with
  | .ok r outs => ∀ v F' H', CPost g F H (muts ms vs) outs F' H' → CV g H F' H' r v → Q v H'
  | .exc x outs => ∀ cls d F' H', CPost g F H (muts ms vs) outs F' H' → XR g F' H' x cls d → E cls d H'
  | .bad => False)
def CalOk (X : Cx) (C : Cal) (f : Str) : Prop := ∃ n fa fd ps, FnOk X.prog X.w X.K X.mg X.base (L2.CX X.prog X.w) n fa fd ps (spF (gx X) C f) ∧ Room n X.A ∧ X.mg f = some (.ref fa) ∧ PySem.W.keepIn X.K (.ref fa) = true ∧ Binds X.K fd ps [] ∧ ∀ n ks pm, C.kw f n ks = some pm → KBn X.K fd ps n ks (fun us ws => pick (us ++ ws) pm) (fun vs zs => pick (vs ++ zs) pm)

structure Cok (X : Cx) (C : Cal) (W : WX) (N : List Str) (sc : Scope) : Prop where
  hN : X.N = N
  nd : N.Nodup
  hsc : X.env.scope = sc
  calm : X.calm = true
  units : X.A.units + 64 < cLine
  blt : ∀ f : Blt, X.mg f.name = none
  tys : ∀ t : TyN, t ≠ .none → X.mg (tyStr t) = none
  rng : X.mg "range" = none
  enm : X.mg "enumerate" = none
  zip : X.mg "zip" = none
  takes : Takes X W
  cst : ∀ x v, C.cst x = some v → ∃ w u, X.mg x = some u ∧ RelV w u ∧ Rep (gx X) (fun _ => none) v w
  cal : ∀ f sg, C.sig f = some sg → CalOk X C f

theorem band {a b : Bool} (h : (a && b) = true) : a = true ∧ b = true := Bool.and_eq_true_iff.mp h
theorem nott {a : Bool} (h : (!a) = true) : a = false := by cases a <;> simp_all

section
variable {X : Cx} {C : Cal} {W : WX} {N : List Str} {sc : Scope}

theorem Cok.vis (K : Cok X C W N sc) {x : Str} (h : visB sc x = true) : Vis X.env.scope x ∧ (x == ("__debug__" : Str)) = false ∧ (x == ("__classdict__" : Str)) = false := by
  obtain ⟨h12, h3⟩ := band h
  obtain ⟨h1, h2⟩ := band h12
  refine ⟨?_, nott h2, nott h3⟩
  rw [K.hsc]
  unfold Vis
  split at h1
  · exact .inl (by assumption)
  · exact .inr (.inl (by assumption))
  · exact .inr (.inr (by assumption))
  · cases h1
theorem Cok.gl (K : Cok X C W N sc) {x : Str} (h : glB sc x = true) : Gl X x ∧ (x == ("__debug__" : Str)) = false := by
  obtain ⟨h1, h2⟩ := band h
  refine ⟨?_, nott h2⟩
  unfold Gl Env.kindOf
  rw [K.hsc]
  split at h1
  · assumption
  · cases h1
abbrev CE (X : Cx) (C : Cal) (W : WX) (a : IE) (e : Expr) : Prop := PE X e (tE (gx X) W (ev C a).1) ∧ PT X e (tT (gx X) W (ev C a).2)

theorem star_cons (env : Env) {e : Expr} (es : List Expr) (h : isStar e = false) : starEach (e :: es) env = (false, eval e env) :: starEach es env := by
  cases e <;> first | rfl | cases h
theorem truth_plain {e : Expr} (env : Env) (h : plainTest e = true) : ∀ whole, isTrue e env whole = (do let v ← whole; standAt e.pos; holding [v] (truthy v)) := by
  intro whole
  cases e <;> first | rfl | cases h

/-- a value, then its truth -/
theorem pt_of {f : En → Out (PV × Fl)} {e : Expr} (he : plainTest e = true) (h : PE X e (tE (gx X) W f)) : PT X e (tT (gx X) W (vt f).2) := by
  refine (pt_truth h (truth_plain X.env he)).imp fun σ H Q q => ?_
  obtain ⟨G, env, F, S, r⟩ := q
  refine ⟨G, env, F, S, Rd.bind r fun a e1 b F1 H1 sm S1 r1 q1 => ?_⟩
  obtain ⟨F2, S2, r2, sm2⟩ := S1.fix r1
  unfold liftB at q1
  split at q1
  · rename_i k hk
    exact ⟨k, truth_pv S2.sub (r2.pr S2.sub) hk, q1 k F2 H1 sm2 S2 rfl⟩
  · exact q1.elim
theorem ce_vt {a : IE} {f : En → Out (PV × Fl)} {e : Expr} (ha : ev C a = vt f) (he : plainTest e = true) (h : PE X e (tE (gx X) W f)) : CE X C W a e := by
  unfold CE
  rw [ha]
  exact ⟨h, pt_of he h⟩
/-- a plain value -/
theorem tC_ok {v : V} {p : PV} {f : En → Out (PV × Fl)} (hf : ∀ e, f e = .ok (p, .fz) e) (hr : ∀ F, Rep (gx X) F p v) : ∀ σ H Q, tE (gx X) W f σ H Q → tC v σ H Q := fun σ H Q q => by
  obtain ⟨G, env, F, S, r⟩ := q
  rw [hf] at r
  exact r v F H (.refl _) S (hr F)

theorem ce_int {i : Int} {j : Nat} {pos : Pos} : CE X C W (.int i) (.Constant (.int i) j pos) := ce_vt rfl rfl (L2.PE.imp pe_int (tC_ok (fun _ => rfl) fun _ => rfl))
theorem ce_str {i : Str} {j : Nat} {pos : Pos} : CE X C W (.str i) (.Constant (.str i) j pos) := ce_vt rfl rfl (L2.PE.imp pe_str (tC_ok (fun _ => rfl) fun _ => rfl))
theorem ce_bl {i : Bool} {j : Nat} {pos : Pos} : CE X C W (.bl i) (.Constant (.bool i) j pos) := ce_vt rfl rfl (L2.PE.imp pe_bl (tC_ok (fun _ => rfl) fun _ => rfl))
theorem ce_non {j : Nat} {pos : Pos} : CE X C W .non (.Constant .none j pos) := ce_vt rfl rfl (L2.PE.imp pe_non (tC_ok (fun _ => rfl) fun _ => rfl))
theorem ce_cst (K : Cok X C W N sc) {x : Str} {pos : Pos} (hg : glB sc x = true) : CE X C W (.cst x) (.Name x pos) := by
  obtain ⟨h1, h2⟩ := K.gl hg
  cases q : C.cst x with
  | none =>
    have e : ∀ e, (ev C (.cst x)).1 e = .bad := fun e => by show fzO (C.cst x) e = _; rw [q]; rfl
    refine ce_vt (f := fun e => fzO (C.cst x) e) rfl rfl ⟨fun pins s σ H Q I h => ?_⟩
    obtain ⟨G, env, F, S, r⟩ := h
    rw [q] at r
    exact r.elim
  | some v =>
    obtain ⟨w, u, e1, e2, e3⟩ := K.cst x v q
    refine ce_vt (f := fun e => fzO (C.cst x) e) rfl rfl (L2.PE.imp (pe_glob h1 e1 e2 h2) (tC_ok (p := v) (fun e => by rw [q]; rfl) fun F => e3.mono fun _ _ z => by cases z))
theorem ce_fnv (K : Cok X C W N sc) {x : Str} {pos : Pos} (hg : glB sc x = true) : CE X C W (.fnv x) (.Name x pos) := by
  obtain ⟨h1, h2⟩ := K.gl hg
  cases q : C.sig x with
  | none =>
    refine ce_vt (f := fun e => okIf (C.sig x).isSome (.fn x, .fz) e) rfl rfl ⟨fun pins s σ H Q I h => ?_⟩
    obtain ⟨G, env, F, S, r⟩ := h
    rw [q] at r
    exact r.elim
  | some sg =>
    obtain ⟨n, fa, fd, ps, _, _, m, _⟩ := K.cal x sg q
    exact ce_vt (f := fun e => okIf (C.sig x).isSome (.fn x, .fz) e) rfl rfl (L2.PE.imp (pe_glob h1 m (v := .ref fa) rfl h2) (tC_ok (p := .fn x) (fun _ => by rw [q]; rfl) fun _ => ⟨fa, rfl, m⟩))
theorem ty_boot (t : TyN) (h : t ≠ .none) : bootBuiltins (tyStr t) = some (.type t.name) ∧ tyStr t ≠ "__name__" := by
  cases t <;> first | exact absurd rfl h | exact ⟨by decide +kernel, by decide +kernel⟩
theorem ce_tyv (K : Cok X C W N sc) {t : TyN} {pos : Pos} (hg : glB sc (tyStr t) = true) (ht : t ≠ .none) : CE X C W (.tyv t) (.Name (tyStr t) pos) := by
  obtain ⟨h1, h2⟩ := K.gl hg
  obtain ⟨b1, b2⟩ := ty_boot t ht
  exact ce_vt rfl rfl (L2.PE.imp (pe_bltn h1 (K.tys t ht) b1 (v := .ty t.name) rfl b2 h2) (tC_ok (fun _ => rfl) fun _ => rfl))

theorem Sx.freezeSlot {g : Gx} {G : Ent} {env : En} {σ : L2.St} {F H : Hp} (S : Sx g G env σ F H) {i : Nat} {p : PV} (e : env[i]? = some (some (p, .own))) :
    ∃ F' v, Sx g G (env.set i (some (p, .fz))) σ F' H ∧ σ[i]? = some (some v) ∧ Rep g F' p v ∧ Same F F' := by
  obtain ⟨a, e1, e2, e3, e4, e5⟩ := S.own i p .own e (by simp)
  obtain ⟨o, eo⟩ := e3.here
  have hi : i < env.length := (List.getElem?_eq_some_iff.mp e).1
  have rp := e3.rep eo e2
  have sm : Same F (upd F a o) := same_upd e2
  -- first the slot is forgotten, then the object is fixed
  have get : ∀ (j : Nat) q, (env.set i (some (p, .fz)))[j]? = some (some q) → (j = i ∧ q = (p, .fz)) ∨ (j ≠ i ∧ env[j]? = some (some q)) := fun j q h => by
    by_cases hj : i = j
    · subst hj
      rw [List.getElem?_set_self hi] at h
      cases h; exact .inl ⟨rfl, rfl⟩
    · rw [List.getElem?_set_ne hj] at h
      exact .inr ⟨fun z => hj z.symm, h⟩
  have S1 : Sx g G (env.set i (some (p, .fz))) σ (upd F a o) H := by
    refine ⟨fun b x q => ?_, S.f0.trans sm, S.h0, fun b x h1 h2 h3 => ?_, S.th, by simpa using S.len, fun j pv h => ?_, fun j pv fl h hf => ?_, fun j k q r b h1 f1 h2 f2 s1 s2 => ?_, fun j pv h => ?_⟩
    · by_cases hb : b = a
      · subst hb; rw [upd_same] at q; cases q; exact eo
      · rw [upd_ne hb] at q; exact S.sub b x q
    · have hb : b ≠ a := by
        rintro rfl
        rcases e5 rfl with z | z
        · exact h3 z
        · rw [h1] at z; cases z
      rw [upd_ne hb]; exact S.nf b x h1 h2 h3
    · rcases get j _ h with ⟨rfl, hq⟩ | ⟨hj, hq⟩
      · cases hq; exact ⟨_, e1, rp⟩
      · obtain ⟨v, e6, r⟩ := S.fz j pv hq
        exact ⟨v, e6, r.mono sm⟩
    · rcases get j _ h with ⟨rfl, hq⟩ | ⟨hj, hq⟩
      · cases hq; exact absurd rfl hf
      · obtain ⟨b, f1, f2, f3, f4, f5⟩ := S.own j pv fl hq hf
        have hb : b ≠ a := by
          rintro rfl
          exact hj (S.inj j i _ _ b hq hf e (by simp) f1 e1)
        exact ⟨b, f1, by rw [upd_ne hb]; exact f2, f3.mono sm fun _ z => z, f4, f5⟩
    · rcases get j _ h1 with ⟨rfl, hq⟩ | ⟨hj, hq⟩
      · subst hq; exact absurd rfl f1
      · rcases get k _ h2 with ⟨rfl, hr⟩ | ⟨hk, hr⟩
        · subst hr; exact absurd rfl f2
        · exact S.inj j k q r b hq f1 hr f2 s1 s2
    · rcases get j _ h with ⟨rfl, hq⟩ | ⟨hj, hq⟩
      · cases hq
      · exact S.bo j pv hq
  exact ⟨_, _, S1, e1, rp, sm⟩

theorem ce_var (K : Cok X C W N sc) {i : Nat} {x : Str} {pos : Pos} (hN : N[i]? = some x) (hv : visB sc x = true) : CE X C W (.var i) (.Name x pos) := by
  obtain ⟨v1, v2, v3⟩ := K.vis hv
  have hN' : X.N[i]? = some x := by rw [K.hN]; exact hN
  have pv : PE X (.Name x pos) (tVar i) := pe_var hN' v1 v2 v3
  constructor
  · refine pv.imp fun σ H Q q => ?_
    obtain ⟨G, env, F, S, r⟩ := q
    have r' : Rd (gx X) W G σ F (RV (gx X) G σ) (evVar i env) Q := r
    unfold evVar at r'
    split at r'
    · rename_i p h
      obtain ⟨v, e1, e2⟩ := S.fz i p h
      exact ⟨v, e1, r' v F H (.refl _) S e2⟩
    · rename_i p h
      obtain ⟨F', v, S', e1, e2, sm⟩ := S.freezeSlot h
      exact ⟨v, e1, r' v F' H sm S' e2⟩
    · exact r'.elim
  · refine (pt_truth pv (truth_plain X.env rfl)).imp fun σ H Q q => ?_
    obtain ⟨G, env, F, S, r⟩ := q
    have r' : Rd (gx X) W G σ F RB (tsVar i env) Q := r
    unfold tsVar at r'
    split at r'
    · rename_i p fl h
      obtain ⟨v, e1, e2⟩ := S.peek h
      unfold liftB at r'
      split at r'
      · rename_i k hk
        exact ⟨v, e1, k, truth_pv S.sub e2 hk, r' k F H (.refl _) S rfl⟩
      · exact r'.elim
    · exact r'.elim

/-- an operand -/
theorem ce_opd (K : Cok X C W N sc) {a : IE} {e : Expr} (hc : chkE N a sc e = true) (h : CE X C W a e) : PE X e (tO (gx X) W (opd a (ev C a).1)) := by
  have gen : (∀ i, a ≠ .var i) → PE X e (tO (gx X) W (opd a (ev C a).1)) := fun hn => by
    have eo : ∀ env, opd a (ev C a).1 env = ((ev C a).1 env).bind fun r e1 => .ok (.val r.1) e1 := fun env => by
      cases a <;> first | rfl | exact absurd rfl (hn _)
    refine h.1.imp fun σ H Q q => ?_
    obtain ⟨G, env, F, S, r⟩ := q
    rw [eo] at r
    refine ⟨G, env, F, S, Rd.bind r fun a e1 b F1 H1 sm S1 r1 q1 => ?_⟩
    obtain ⟨F2, S2, r2, sm2⟩ := S1.fix r1
    exact q1 b F2 H1 sm2 S2 r2
  cases a with
  | var i =>
    cases e <;> try (cases hc; done)
    rename_i x pos
    obtain ⟨h1, h2⟩ := band (show (decide (N[i]? = some x) && visB sc x) = true from hc)
    obtain ⟨v1, v2, v3⟩ := K.vis h2
    have hN' : X.N[i]? = some x := by rw [K.hN]; exact of_decide_eq_true h1
    refine (pe_var hN' v1 v2 v3).imp fun σ H Q q => ?_
    obtain ⟨G, env, F, S, r⟩ := q
    have r' : Rd (gx X) W G σ F (RO (gx X) σ) (match env[i]? with
      | some (some _) => .ok (.slot i) env
      | _ => .bad) Q := r
    split at r'
    · rename_i p h
      obtain ⟨v, e1, e2⟩ := S.peek (fl := p.2) h
      exact ⟨v, e1, r' v F H (.refl _) S e1⟩
    · exact r'.elim
  | _ => exact gen (fun i z => by cases z)

/-- two operands, then an operation -/
theorem two_of {α : Type} {fa fb : En → Out Opd} {R : R2} {R' : Ent → L2.St → α → En → V → Hp → Hp → Prop} {k : Opd → Opd → En → Out α}
    (hR : ∀ G σ x y e F H v w Q, Sx (gx X) G e σ F H → OR (gx X) σ F x v → OR (gx X) σ F y w → Rd (gx X) W G σ F (R' G σ) (k x y e) Q → R v w H Q) :
    ∀ σ H Q, tG (gx X) W R' (fun e => (fa e).bind fun x e1 => (fb e1).bind fun y e2 => k x y e2) σ H Q → tOp R (tO (gx X) W fa) (tO (gx X) W fb) σ H Q := fun σ H Q q => by
  obtain ⟨G, env, F, S, r⟩ := q
  refine ⟨G, env, F, S, Rd.bind r fun x e1 v F1 H1 sm1 S1 r1 q1 => ?_⟩
  refine ⟨G, e1, F1, S1, Rd.bind q1 fun y e2 w F2 H2 sm2 S2 r2 q2 => ?_⟩
  exact hR G σ x y e2 F2 H2 v w Q S2 (r1.mono sm2) r2 q2
theorem liftO_new {G : Ent} {σ : L2.St} {e : En} {F H : Hp} {o : Option PV} {Q : VK} (S : Sx (gx X) G e σ F H) (h : Rd (gx X) W G σ F (RV (gx X) G σ) (liftO o e) Q) :
    ∃ r, o = some r ∧ ∀ v F' H', NewV (gx X) F H F' H' r v → Q v H' := by
  cases o with
  | none => exact h.elim
  | some r =>
    refine ⟨r, rfl, fun v F' H' n => ?_⟩
    obtain ⟨S', v'⟩ := S.new n
    exact h v F' H' n.1.sF S' v'
theorem ce_bin (K : Cok X C W N sc) {a b : IE} {l r : Expr} {op : Operator} {pos : Pos} (ca : chkE N a sc l = true) (cb : chkE N b sc r = true) (ha : CE X C W a l) (hb : CE X C W b r) : CE X C W (.bin op a b) (.BinOp l op r pos) := by
  refine ce_vt rfl rfl ((pe_op (op_bin op) (ce_opd K ca ha) (ce_opd K cb hb)).imp (two_of fun G σ x y e F H v w Q S r1 r2 q => ?_))
  obtain ⟨r, e1, k⟩ := liftO_new S q
  obtain ⟨p, e2, e3⟩ := Option.bind_eq_some_iff.mp e1
  obtain ⟨q, e4, e5⟩ := Option.bind_eq_some_iff.mp e3
  exact ⟨F, p, q, r, S.sub, S.rs e2 r1, S.rs e4 r2, e5, k⟩
theorem ce_un (K : Cok X C W N sc) {a : IE} {l : Expr} {op : UnaryOp} {pos : Pos} (ca : chkE N a sc l = true) (ha : CE X C W a l) (hop : op ≠ .Not) : CE X C W (.un op a) (.UnaryOp op l pos) := by
  have h : PE X (.UnaryOp op l pos) (tE (gx X) W (ev C (.un op a)).1) := (pe_un (op_un op) (ce_opd K ca ha)).imp fun σ H Q q => by
    obtain ⟨G, env, F, S, r⟩ := q
    refine ⟨G, env, F, S, Rd.bind r fun x e1 v F1 H1 sm S1 r1 q1 => ?_⟩
    obtain ⟨r, e1, k⟩ := liftO_new S1 q1
    obtain ⟨p, e2, e3⟩ := Option.bind_eq_some_iff.mp e1
    exact ⟨F1, p, r, S1.sub, S1.rs e2 r1, e3, k⟩
  refine ⟨h, ?_⟩
  have he : ∀ whole, isTrue (.UnaryOp op l pos) X.env whole = (do let v ← whole; standAt (Expr.UnaryOp op l pos).pos; holding [v] (truthy v)) := fun whole => by
    cases op <;> first | rfl | exact absurd rfl hop
  refine (pt_truth h he).imp fun σ H Q q => ?_
  obtain ⟨G, env, F, S, r⟩ := q
  refine ⟨G, env, F, S, Rd.bind r fun a e1 b F1 H1 sm S1 r1 q1 => ?_⟩
  obtain ⟨F2, S2, r2, sm2⟩ := S1.fix r1
  unfold liftB at q1
  split at q1
  · rename_i k hk
    exact ⟨k, truth_pv S2.sub (r2.pr S2.sub) hk, q1 k F2 H1 sm2 S2 rfl⟩
  · exact q1.elim
/-- a test of a bool's kind -/
theorem ce_tv {a : IE} {f : En → Out Bool} {e : Expr} (ha : ev C a = tv f) (h1 : PE X e (tE (gx X) W (tv f).1)) (h2 : PT X e (tT (gx X) W f)) : CE X C W a e := by
  unfold CE
  rw [ha]
  exact ⟨h1, h2⟩
theorem cmp2_rd {G : Ent} {σ : L2.St} {e : En} {F H : Hp} {op : CmpOp} {x y : Opd} {v w : V} {Q : Bool → Hp → Prop} (S : Sx (gx X) G e σ F H) (r1 : OR (gx X) σ F x v) (r2 : OR (gx X) σ F y w)
    (h : Rd (gx X) W G σ F RB (cmp2 op x y e) Q) : rB2 (gx X) (cmpP op) v w H fun z H' => ∃ k, z = .bl k ∧ Q k H' := by
  unfold cmp2 liftB at h
  split at h
  · rename_i b hb
    obtain ⟨p, e2, e3⟩ := Option.bind_eq_some_iff.mp hb
    obtain ⟨q, e4, e5⟩ := Option.bind_eq_some_iff.mp e3
    exact ⟨F, p, q, b, S.sub, S.rs e2 r1, S.rs e4 r2, e5, b, rfl, h b F H (.refl _) S rfl⟩
  · exact h.elim
theorem ce_not (K : Cok X C W N sc) {a : IE} {l : Expr} {pos : Pos} (ca : chkE N a sc l = true) (ha : CE X C W a l) : CE X C W (.not a) (.UnaryOp .Not l pos) := by
  constructor
  · refine (pe_notT (ce_opd K ca ha)).imp fun σ H Q q => ?_
    obtain ⟨G, env, F, S, r⟩ := q
    refine ⟨G, env, F, S, Rd.bind r fun x e1 v F1 H1 sm S1 r1 q1 => ?_⟩
    unfold liftB at q1
    split at q1
    · rename_i k hk
      obtain ⟨p, e2, e3⟩ := Option.bind_eq_some_iff.mp hk
      exact ⟨k, truth_pv S1.sub (S1.rs e2 r1) e3, q1 (.bl (!k)) F1 H1 (.refl _) S1 rfl⟩
    · exact q1.elim
  · refine (pt_not ha.2).imp fun σ H Q q => ?_
    obtain ⟨G, env, F, S, r⟩ := q
    refine ⟨G, env, F, S, Rd.bind r fun b e1 c F1 H1 sm S1 r1 q1 => ?_⟩
    have e : c = b := r1
    subst e
    exact q1 (!c) F1 H1 (.refl _) S1 rfl
theorem noset (op : CmpOp) {b : Expr} (h : isSetX b = false) : behindInMarks op b = false := by
  cases b <;> first | rfl | cases h
theorem ce_cmp (K : Cok X C W N sc) {a b : IE} {l r : Expr} {op : CmpOp} {pos : Pos} (ca : chkE N a sc l = true) (cb : chkE N b sc r = true) (hs : isSetX r = false) (ha : CE X C W a l) (hb : CE X C W b r) :
    CE X C W (.cmp op a b) (.Compare l [op] [r] pos) := by
  refine ce_tv rfl ?_ ?_
  · refine (pe_cmpR (op_cmp K.units op) (ce_opd K ca ha) (ce_opd K cb hb) (noset op hs)).imp fun σ H Q q => ?_
    obtain ⟨G, env, F, S, r⟩ := q
    have r' : Rd (gx X) W G σ F (RV (gx X) G σ) ((opd a (ev C a).1 env).bind fun x e1 => ((opd b (ev C b).1 e1).bind fun y e2 => cmp2 op x y e2).bind fun b e1 => .ok (.bl b, .fz) e1) Q := by
      have e : ∀ {α β γ : Type} (m : Out α) (f : α → En → Out β) (k : β → En → Out γ), (m.bind f).bind k = m.bind fun x e => (f x e).bind k := fun m f k => by cases m <;> rfl
      rw [← e]; exact r
    refine ⟨G, env, F, S, Rd.bind r' fun x e1 v F1 H1 sm1 S1 r1 q1 => ?_⟩
    have q1' : Rd (gx X) W G σ F1 (RV (gx X) G σ) ((opd b (ev C b).1 e1).bind fun y e2 => (cmp2 op x y e2).bind fun b e1 => .ok (.bl b, .fz) e1) Q := by
      have e : ∀ {α β γ : Type} (m : Out α) (f : α → En → Out β) (k : β → En → Out γ), (m.bind f).bind k = m.bind fun x e => (f x e).bind k := fun m f k => by cases m <;> rfl
      rw [← e]; exact q1
    refine ⟨G, e1, F1, S1, Rd.bind q1' fun y e2 w F2 H2 sm2 S2 r2 q2 => ?_⟩
    obtain ⟨F3, p, q, b, h1, h2, h3, h4, k, h5, h6⟩ := cmp2_rd (Q := fun k H' => Q (.bl k) H') S2 (r1.mono sm2) r2 (Rd.bind q2 fun k e3 c F3 H3 sm3 S3 r3 q3 => by
      have e : c = k := r3
      subst e
      exact q3 (.bl c) F3 H3 (.refl _) S3 rfl)
    cases h5
    exact ⟨F3, p, q, b, h1, h2, h3, h4, h6⟩
  · refine (pt_cmpR (op_cmp K.units op) (ce_opd K ca ha) (ce_opd K cb hb) (noset op hs)).imp fun σ H Q q => ?_
    obtain ⟨G, env, F, S, r⟩ := q
    refine ⟨G, env, F, S, Rd.bind r fun x e1 v F1 H1 sm1 S1 r1 q1 => ?_⟩
    refine ⟨G, e1, F1, S1, Rd.bind q1 fun y e2 w F2 H2 sm2 S2 r2 q2 => ?_⟩
    exact cmp2_rd S2 (r1.mono sm2) r2 q2
end
end Bd

namespace Bd
open PySem L2
theorem Out.assoc {α β γ : Type} (m : Out α) (f : α → En → Out β) (k : β → En → Out γ) : (m.bind f).bind k = m.bind fun x e => (f x e).bind k := by cases m <;> rfl
section
variable {X : Cx} {C : Cal} {W : WX} {N : List Str} {sc : Scope}
/-- a test's run, its value a bool -/
theorem tv_pe {f : En → Out Bool} {G : Ent} {σ : L2.St} {F : Hp} {env : En} {Q : VK} (h : Rd (gx X) W G σ F (RV (gx X) G σ) ((f env).bind fun b e1 => .ok (.bl b, .fz) e1) Q) : Rd (gx X) W G σ F RB (f env) fun b H => Q (.bl b) H :=
  Rd.bind h fun b e1 c F1 H1 sm S1 r1 q1 => by
    have e : c = b := r1
    subst e
    exact q1 (.bl c) F1 H1 (.refl _) S1 rfl
theorem chn_rd {op op' : CmpOp} {fa fb fc : En → Out Opd} {G : Ent} {σ : L2.St} {F H : Hp} {env : En} {Q : Bool → Hp → Prop} (S : Sx (gx X) G env σ F H)
    (h : Rd (gx X) W G σ F RB ((fa env).bind fun x e1 => (fb e1).bind fun y e2 => (cmp2 op x y e2).bind fun k e3 => if k then (fc e3).bind fun z e4 => cmp2 op' y z e4 else .ok false e3) Q) :
    tChain (rB2 (gx X) (cmpP op)) (rB2 (gx X) (cmpP op')) (tO (gx X) W fa) (tO (gx X) W fb) (tO (gx X) W fc) σ H fun z H' => ∃ k, z = .bl k ∧ Q k H' := by
  refine ⟨G, env, F, S, Rd.bind h fun x e1 v F1 H1 sm1 S1 r1 q1 => ?_⟩
  refine ⟨G, e1, F1, S1, Rd.bind q1 fun y e2 w F2 H2 sm2 S2 r2 q2 => ?_⟩
  refine cmp2_rd S2 (r1.mono sm2) r2 (Rd.bind q2 fun k e3 c F3 H3 sm3 S3 r3 q3 => ?_)
  have e : c = k := r3
  subst e
  cases c with
  | false => exact ⟨false, rfl, q3 false F3 H3 (.refl _) S3 rfl⟩
  | true =>
    refine ⟨G, e3, F3, S3, Rd.bind q3 fun z e4 u F4 H4 sm4 S4 r4 q4 => ?_⟩
    exact cmp2_rd S4 ((r2.mono sm3).mono sm4) r4 q4
theorem ce_chn (K : Cok X C W N sc) {a b c : IE} {l r q : Expr} {op op' : CmpOp} {pos : Pos} (ca : chkE N a sc l = true) (cb : chkE N b sc r = true) (cc : chkE N c sc q = true) (hs : isSetX q = false) (ha : CE X C W a l) (hb : CE X C W b r) (hc : CE X C W c q) :
    CE X C W (.chn op op' a b c) (.Compare l [op, op'] [r, q] pos) := by
  have hm : lastMarks [op, op'] [r, q] = false := noset op' hs
  refine ce_tv rfl ?_ ?_
  · refine (L2.PE.weak (pe_chain (op_cmp K.units op) (op_cmp K.units op') (ce_opd K ca ha) (ce_opd K cb hb) (ce_opd K cc hc) hm)).imp fun σ H Q q => ?_
    obtain ⟨G, env, F, S, r⟩ := q
    refine ⟨fun z H' => ∃ k, z = .bl k ∧ Q (.bl k) H', chn_rd (Q := fun b H => Q (.bl b) H) S ?_, fun z H' ⟨k, e, q⟩ => by rw [e]; exact q⟩
    exact tv_pe (f := fun e => (opd a (ev C a).1 e).bind fun x e1 => (opd b (ev C b).1 e1).bind fun y e2 => (cmp2 op x y e2).bind fun k e3 => if k then (opd c (ev C c).1 e3).bind fun z e4 => cmp2 op' y z e4 else .ok false e3) r
  · refine (pt_chain (op_cmp K.units op) (op_cmp K.units op') (ce_opd K ca ha) (ce_opd K cb hb) (ce_opd K cc hc) hm).imp fun σ H Q q => ?_
    obtain ⟨G, env, F, S, r⟩ := q
    exact chn_rd S r

/-! ### and, or, if -/
/-- the rest of a row of and's: one expression stands for itself -/
def bx (op : BoolOp) (y : Expr) (r : List Expr) (p : Pos) : Expr := match r with
  | [] => y
  | z :: r => .BoolOp op (y :: z :: r) p
theorem pe_bx {op : BoolOp} {y : Expr} {r : List Expr} {p : Pos} {t : TE} (h : PE X (bx op y r p) t) : PE X (.BoolOp op (y :: r) p) t := by
  cases r with
  | nil => exact pe_one h
  | cons z r => exact h
theorem pt_and {a b : Expr} {rest : List Expr} {pos : Pos} {ta tb : TT} (ha : PT X a ta) (hb : PT X (bx .And b rest pos) tb) : PW X (.BoolOp .And (a :: b :: rest) pos) (tAnd ta tb) := by
  refine ⟨fun wh pins s σ H Q I h => ?_⟩
  refine PyProof.Rows.isTrue_and (thn (ha.run pins s σ H _ I h) fun c s1 ⟨H1, I1, q1⟩ => ?_)
  cases c with
  | false => exact ⟨H1, I1, q1⟩
  | true =>
    cases rest with
    | nil => exact (pw_and1 hb).run wh pins s1 σ H1 Q I1 q1
    | cons z r =>
      have hb' : PT X (.BoolOp .And (b :: z :: r) pos) tb := hb
      exact thn (hb'.run pins s1 σ H1 Q I1 q1) fun _ _ z => z
theorem pt_or {a b : Expr} {rest : List Expr} {pos : Pos} {ta tb : TT} (ha : PT X a ta) (hb : PT X (bx .Or b rest pos) tb) : PW X (.BoolOp .Or (a :: b :: rest) pos) (tOr ta tb) := by
  refine ⟨fun wh pins s σ H Q I h => ?_⟩
  refine PyProof.Rows.isTrue_or (thn (ha.run pins s σ H _ I h) fun c s1 ⟨H1, I1, q1⟩ => ?_)
  cases c with
  | true => exact ⟨H1, I1, q1⟩
  | false =>
    cases rest with
    | nil => exact (pw_or1 hb).run wh pins s1 σ H1 Q I1 q1
    | cons z r =>
      have hb' : PT X (.BoolOp .Or (b :: z :: r) pos) tb := hb
      exact thn (hb'.run pins s1 σ H1 Q I1 q1) fun _ _ z => z
theorem ce_and {a b : IE} {x y : Expr} {r : List Expr} {p : Pos} (ha : CE X C W a x) (hb : CE X C W b (bx .And y r p)) : CE X C W (.and a b) (.BoolOp .And (x :: y :: r) p) := by
  constructor
  · refine (pe_andT ha.1 (pe_bx hb.1)).imp fun σ H Q q => ?_
    obtain ⟨G, env, F, S, r⟩ := q
    refine ⟨G, env, F, S, Rd.bind r fun r1 e1 v F1 H1 sm1 S1 h1 q1 => ?_⟩
    split at q1
    · rename_i ht
      obtain ⟨F2, S2, r2, sm2⟩ := S1.fix h1
      refine ⟨true, truth_pv S2.sub (r2.pr S2.sub) ht, ?_⟩
      rw [if_pos rfl]
      exact ⟨G, e1, F2, S2, q1.at sm2⟩
    · rename_i ht
      obtain ⟨F2, S2, r2, sm2⟩ := S1.fix h1
      refine ⟨false, truth_pv S2.sub (r2.pr S2.sub) ht, ?_⟩
      rw [if_neg (by simp)]
      exact q1 v F1 H1 (.refl _) S1 h1
    · exact q1.elim
  · refine (PW.pt (pt_and ha.2 hb.2)).imp fun σ H Q q => ?_
    obtain ⟨G, env, F, S, r⟩ := q
    refine ⟨G, env, F, S, Rd.bind r fun k e1 c F1 H1 sm1 S1 h1 q1 => ?_⟩
    have e : c = k := h1
    subst e
    cases c with
    | true => exact ⟨G, e1, F1, S1, q1⟩
    | false => exact q1 false F1 H1 (.refl _) S1 rfl
theorem ce_or {a b : IE} {x y : Expr} {r : List Expr} {p : Pos} (ha : CE X C W a x) (hb : CE X C W b (bx .Or y r p)) : CE X C W (.or a b) (.BoolOp .Or (x :: y :: r) p) := by
  constructor
  · refine (pe_orT ha.1 (pe_bx hb.1)).imp fun σ H Q q => ?_
    obtain ⟨G, env, F, S, r⟩ := q
    refine ⟨G, env, F, S, Rd.bind r fun r1 e1 v F1 H1 sm1 S1 h1 q1 => ?_⟩
    split at q1
    · rename_i ht
      obtain ⟨F2, S2, r2, sm2⟩ := S1.fix h1
      refine ⟨false, truth_pv S2.sub (r2.pr S2.sub) ht, ?_⟩
      rw [if_neg (by simp)]
      exact ⟨G, e1, F2, S2, q1.at sm2⟩
    · rename_i ht
      obtain ⟨F2, S2, r2, sm2⟩ := S1.fix h1
      refine ⟨true, truth_pv S2.sub (r2.pr S2.sub) ht, ?_⟩
      rw [if_pos rfl]
      exact q1 v F1 H1 (.refl _) S1 h1
    · exact q1.elim
  · refine (PW.pt (pt_or ha.2 hb.2)).imp fun σ H Q q => ?_
    obtain ⟨G, env, F, S, r⟩ := q
    refine ⟨G, env, F, S, Rd.bind r fun k e1 c F1 H1 sm1 S1 h1 q1 => ?_⟩
    have e : c = k := h1
    subst e
    cases c with
    | true => exact q1 true F1 H1 (.refl _) S1 rfl
    | false => exact ⟨G, e1, F1, S1, q1⟩
theorem pt_ifExp {c a b : Expr} {tc ta tb : TT} {pos : Pos} (hc : PT X c tc) (ha : PT X a ta) (hb : PT X b tb) : PT X (.IfExp c a b pos) (fun σ H Q => tc σ H fun k H1 => if k = true then ta σ H1 Q else tb σ H1 Q) := by
  refine ⟨fun pins s σ H Q I h => ?_⟩
  show wpAny _ _ (do if ← isTrue c X.env (eval c X.env) then isTrue a X.env (eval a X.env) else isTrue b X.env (eval b X.env)) _ _ s
  refine wpAny_bind (thn (hc.run pins s σ H _ I h) fun d s1 ⟨H1, I1, q1⟩ => ?_)
  cases d with
  | true => exact ha.run pins s1 σ H1 Q I1 q1
  | false => exact hb.run pins s1 σ H1 Q I1 q1
theorem ce_ife {c a b : IE} {t l r : Expr} {p : Pos} (hc : CE X C W c t) (ha : CE X C W a l) (hb : CE X C W b r) : CE X C W (.ife c a b) (.IfExp t l r p) := by
  constructor
  · refine (pe_ifExp hc.2 ha.1 hb.1).imp fun σ H Q q => ?_
    obtain ⟨G, env, F, S, r⟩ := q
    refine ⟨G, env, F, S, Rd.bind r fun k e1 c F1 H1 sm1 S1 h1 q1 => ?_⟩
    have e : c = k := h1
    subst e
    cases c with
    | true => exact ⟨G, e1, F1, S1, q1⟩
    | false => exact ⟨G, e1, F1, S1, q1⟩
  · refine (pt_ifExp hc.2 ha.2 hb.2).imp fun σ H Q q => ?_
    obtain ⟨G, env, F, S, r⟩ := q
    refine ⟨G, env, F, S, Rd.bind r fun k e1 c F1 H1 sm1 S1 h1 q1 => ?_⟩
    have e : c = k := h1
    subst e
    cases c with
    | true => exact ⟨G, e1, F1, S1, q1⟩
    | false => exact ⟨G, e1, F1, S1, q1⟩

/-! ### displays, items, slices -/
theorem ca_nil {f : En → Out (List PV)} (hf : ∀ e, f e = .ok [] e) : PA X [] (tF (gx X) W f) := pa_nil.imp fun σ H Q q => by
  obtain ⟨G, env, F, S, r⟩ := q
  rw [hf] at r
  exact r [] F H (.refl _) S rfl
theorem any_star (env : Env) (pos : Pos) : ∀ es : List Expr, (es.all fun e => !isStar e) = true → (backTo pos (starEach es env)).any (·.1) = false
  | [], _ => rfl
  | e :: es, h => by
    obtain ⟨h1, h2⟩ := band (show (!isStar e && es.all fun e => !isStar e) = true from h)
    rw [star_cons env es (nott h1)]
    show (false || (backTo pos (starEach es env)).any (·.1)) = false
    rw [any_star env pos es h2]; rfl
theorem cf_cons {a : IE} {e : Expr} {es : List Expr} {fr : En → Out (List PV)} (hs : isStar e = false) (ha : CE X C W a e) (hr : PA X es (tF (gx X) W fr)) :
    PA X (e :: es) (tF (gx X) W fun env => ((ev C a).1 env).bind fun x e1 => (fr e1).bind fun xs e2 => .ok (x.1 :: xs) e2) := by
  refine (pa_cons ha.1 hr (star_cons X.env es hs)).imp fun σ H Q q => ?_
  obtain ⟨G, env, F, S, r⟩ := q
  refine ⟨G, env, F, S, Rd.bind r fun x e1 v F1 H1 sm1 S1 h1 q1 => ?_⟩
  obtain ⟨F2, S2, r2, sm2⟩ := S1.fix h1
  refine ⟨G, e1, F2, S2, Rd.bind (q1.at sm2) fun xs e2 vs F3 H3 sm3 S3 h3 q3 => ?_⟩
  exact q3 (v :: vs) F3 H3 (.refl _) S3 ⟨v, vs, rfl, r2.mono sm3, h3⟩
theorem co_nil {f : En → Out (List Opd)} (hf : ∀ e, f e = .ok [] e) : PA X [] (tOs (gx X) W f) := pa_nil.imp fun σ H Q q => by
  obtain ⟨G, env, F, S, r⟩ := q
  rw [hf] at r
  exact r [] F H (.refl _) S rfl
theorem co_cons {fa : En → Out Opd} {e : Expr} {es : List Expr} {fr : En → Out (List Opd)} (hs : isStar e = false) (ha : PE X e (tO (gx X) W fa)) (hr : PA X es (tOs (gx X) W fr)) :
    PA X (e :: es) (tOs (gx X) W fun env => (fa env).bind fun x e1 => (fr e1).bind fun xs e2 => .ok (x :: xs) e2) := by
  refine (pa_cons ha hr (star_cons X.env es hs)).imp fun σ H Q q => ?_
  obtain ⟨G, env, F, S, r⟩ := q
  refine ⟨G, env, F, S, Rd.bind r fun x e1 v F1 H1 sm1 S1 h1 q1 => ?_⟩
  refine ⟨G, e1, F1, S1, Rd.bind q1 fun xs e2 vs F3 H3 sm3 S3 h3 q3 => ?_⟩
  exact q3 (v :: vs) F3 H3 (.refl _) S3 ⟨v, vs, rfl, h1.mono sm3, h3⟩
theorem okIf_rd {G : Ent} {σ : L2.St} {F : Hp} {k : Bool} {r : PV × Fl} {e : En} {Q : VK} (h : Rd (gx X) W G σ F (RV (gx X) G σ) (okIf k r e) Q) : k = true ∧ Rd (gx X) W G σ F (RV (gx X) G σ) (.ok r e) Q := by
  unfold okIf at h
  split at h
  · rename_i hk; exact ⟨hk, h⟩
  · exact h.elim
theorem ce_tup {as : IE} {es : List Expr} {k : Nat} {p : Pos} (h : PA X es (tF (gx X) W (evF C as))) : CE X C W (.tup as) (.Tuple es k p) := by
  refine ce_vt rfl rfl ((pe_tup h).imp fun σ H Q q => ?_)
  obtain ⟨G, env, F, S, r⟩ := q
  refine ⟨G, env, F, S, Rd.bind r fun ps e1 vs F1 H1 sm1 S1 h1 q1 => ?_⟩
  obtain ⟨hk, q1⟩ := okIf_rd q1
  have hl := (show Reps (gx X) F1 ps vs from h1).length
  have hk' : ps.length ≤ sizeLine := of_decide_eq_true hk
  refine ⟨by omega, fun p n => ?_⟩
  obtain ⟨S2, v2⟩ := S1.new (NewV.tup (g := gx X) S1.sub n h1)
  exact q1 _ _ _ (same_upd (Same.free S1.sub n)) S2 v2
theorem ce_lst {as : IE} {es : List Expr} {p : Pos} (h : PA X es (tF (gx X) W (evF C as))) : CE X C W (.lst as) (.List es p) := by
  refine ce_vt rfl rfl ((pe_lst h).imp fun σ H Q q => ?_)
  obtain ⟨G, env, F, S, r⟩ := q
  refine ⟨G, env, F, S, Rd.bind r fun ps e1 vs F1 H1 sm1 S1 h1 q1 => ?_⟩
  obtain ⟨hk, q1⟩ := okIf_rd q1
  have hl := (show Reps (gx X) F1 ps vs from h1).length
  have hk' : ps.length ≤ sizeLine := of_decide_eq_true hk
  refine ⟨by omega, fun p n => ?_⟩
  obtain ⟨S2, v2⟩ := S1.new (NewV.lst (g := gx X) S1.sub n h1)
  exact q1 _ _ _ (.refl _) S2 v2
theorem plainIx {b : Expr} (h : isSliceX b = false) : PlainIx b := by
  intro o i
  cases b <;> first | rfl | cases h
theorem ce_sub (K : Cok X C W N sc) {a b : IE} {o i : Expr} {pos : Pos} (ca : chkE N a sc o = true) (cb : chkE N b sc i = true) (hs : isSliceX i = false) (ha : CE X C W a o) (hb : CE X C W b i) : CE X C W (.sub a b) (.Subscript o i pos) := by
  refine ce_vt rfl rfl ((pe_ix ix_pv (ce_opd K ca ha) (ce_opd K cb hb) (plainIx hs)).imp (two_of fun G σ x y e F H v w Q S r1 r2 q => ?_))
  unfold fzO at q
  split at q
  · rename_i r e1
    obtain ⟨p, e2, e3⟩ := Option.bind_eq_some_iff.mp e1
    obtain ⟨z, e4, e5⟩ := Option.bind_eq_some_iff.mp e3
    exact ⟨F, p, z, r, S.sub, S.rs e2 r1, S.rs e4 r2, e5, fun u hu => q u F H (.refl _) S hu⟩
  · exact q.elim
theorem part_none : PO X none (tP (gx X) W (part .no (ev C .no).1)) := po_none.imp fun σ H Q q => by
  obtain ⟨G, env, F, S, r⟩ := q
  exact r none F H (.refl _) S rfl
theorem part_some (K : Cok X C W N sc) {a : IE} {e : Expr} (ca : chkE N a sc e = true) (ha : CE X C W a e) : PO X (some e) (tP (gx X) W (part a (ev C a).1)) := by
  refine (po_some (ce_opd K ca ha)).imp fun σ H Q q => ?_
  obtain ⟨G, env, F, S, r⟩ := q
  have r' : Rd (gx X) W G σ F RP ((opd a (ev C a).1 env).bind fun x e1 => match rsO e1 x with
    | some (.int i) => .ok (some i) e1
    | _ => .bad) Q := by
    cases a <;> first | exact r | (cases ca)
  refine ⟨G, env, F, S, Rd.bind r' fun x e1 v F1 H1 sm1 S1 h1 q1 => ?_⟩
  split at q1
  · rename_i i hi
    have := S1.rs hi h1
    cases this
    exact ⟨i, rfl, q1 (some i) F1 H1 (.refl _) S1 rfl⟩
  · exact q1.elim
theorem ce_slc (K : Cok X C W N sc) {a lo hi : IE} {o : Expr} {l h : Option Expr} {p2 pos : Pos} (ca : chkE N a sc o = true) (ha : CE X C W a o) (hl : PO X l (tP (gx X) W (part lo (ev C lo).1))) (hh : PO X h (tP (gx X) W (part hi (ev C hi).1))) :
    CE X C W (.slc a lo hi) (.Subscript o (.Slice l h none p2) pos) := by
  refine ce_vt rfl rfl ((pe_slice sl_pv (ce_opd K ca ha) hl hh).imp fun σ H Q q => ?_)
  obtain ⟨G, env, F, S, r⟩ := q
  refine ⟨G, env, F, S, Rd.bind r fun x e1 v F1 H1 sm1 S1 h1 q1 => ?_⟩
  refine ⟨G, e1, F1, S1, Rd.bind q1 fun y e2 w F2 H2 sm2 S2 h2 q2 => ?_⟩
  refine ⟨G, e2, F2, S2, Rd.bind q2 fun z e3 u F3 H3 sm3 S3 h3 q3 => ?_⟩
  have e4 : w = y := h2
  have e5 : u = z := h3
  subst e4 e5
  obtain ⟨r, e6, k⟩ := liftO_new S3 q3
  obtain ⟨p, e7, e8⟩ := Option.bind_eq_some_iff.mp e6
  exact ⟨F3, p, r, S3.sub, S3.rs e7 ((h1.mono sm2).mono sm3), e8, k⟩

/-! ### built-in functions and methods -/
theorem blt_boot (f : Blt) : bootBuiltins f.name = some (bltV f) ∧ f.name ≠ "__name__" := by
  cases f <;> exact ⟨by decide +kernel, by decide +kernel⟩
theorem pe_callV {x : Str} {v : Value} {e : Expr} {es : List Expr} {p pos : Pos} {r : List V → Hp → VK → Prop} {t : TA} (hv' : (∃ n, v = .builtin n) ∨ ∃ n, v = .type n) (hc : CallR X v r) (hg : Gl X x) (hm : X.mg x = none) (hv : bootBuiltins x = some v) (ha : PA X (e :: es) t)
    (hn : x ≠ "__name__") (hdb : (x == ("__debug__" : Str)) = false) (he : starEach (e :: es) X.env = (false, eval e X.env) :: starEach es X.env) (hpl : (backTo pos (starEach es X.env)).any (·.1) = false) :
    PE X (.Call (.Name x p) (e :: es) [] pos) (tCB r t) := by
  rcases hv' with ⟨n, rfl⟩ | ⟨n, rfl⟩
  · exact pe_callB hc hg hm hv ha hn hdb he hpl
  · exact pe_callTy hc hg hm hv ha hn hdb he hpl
theorem bltV_kind (f : Blt) : (∃ n, bltV f = .builtin n) ∨ ∃ n, bltV f = .type n := by
  cases f <;> first | exact .inl ⟨_, rfl⟩ | exact .inr ⟨_, rfl⟩
theorem ce_blt (K : Cok X C W N sc) {f : Blt} {as : IE} {e : Expr} {es : List Expr} {p pos : Pos} (hg : glB sc f.name = true) (hs : ((e :: es).all fun e => !isStar e) = true) (h : PA X (e :: es) (tOs (gx X) W (evOs C as))) :
    CE X C W (.blt f as) (.Call (.Name f.name p) (e :: es) [] pos) := by
  obtain ⟨h1, h2⟩ := K.gl hg
  obtain ⟨b1, b2⟩ := blt_boot f
  obtain ⟨s1, s2⟩ := band (show (!isStar e && es.all fun e => !isStar e) = true from hs)
  refine ce_vt rfl rfl ((pe_callV (bltV_kind f) (call_blt K.calm f) h1 (K.blt f) b1 h b2 h2 (star_cons _ _ (nott s1)) (any_star _ _ _ s2)).imp fun σ H Q q => ?_)
  obtain ⟨G, env, F, S, r⟩ := q
  refine ⟨G, env, F, S, Rd.bind r fun os e1 vs F1 H1 sm1 S1 h1 q1 => ?_⟩
  obtain ⟨r, e2, k⟩ := liftO_new S1 q1
  obtain ⟨ps, e3, e4⟩ := Option.bind_eq_some_iff.mp e2
  exact ⟨F1, ps, r, S1.sub, S1.rss e3 h1, e4, k⟩
end
end Bd

namespace Bd
open PySem L2
section
variable {X : Cx} {C : Cal} {W : WX} {N : List Str} {sc : Scope}
theorem base_plain {o : Expr} (h : plainBase o = true) (name : Str) (env : Env) (w : Sem Value) : attributeBase o name env w = w := by
  cases o with
  | Call f as ks p =>
    cases f <;> try rfl
    cases as with
    | cons _ _ => rfl
    | nil =>
      cases ks with
      | cons _ _ => rfl
      | nil => cases h
  | _ => rfl
/-- one operand as a list of one; a text's method -/
theorem ce_mth {m : Mth} {id : String} {o : IE} {as : IE} {q e : Expr} {ap cp : Pos} {fa : En → Out Opd} (slot : Slot "str" m.name id) (ty : typeOf (.builtin id) = pure (.type "method_descriptor")) (rule : MtR X id (rM (gx X) m)) (hstr : ∀ o, kindO m o = true → ∃ z, o = some (.str z))
    (hs : isStar e = false) (hb : plainBase q = true) (hl : (ap.endLine == cp.line) = true) (ho : PE X q (tO (gx X) W (opd o (ev C o).1))) (he : PE X e (tO (gx X) W fa)) (has : ∀ env, evOs C as env = (fa env).bind fun x e1 => .ok [x] e1) :
    CE X C W (.mth m o as) (.Call (.Attribute q m.name ap) [e] [] cp) := by
  refine ce_vt rfl rfl ((pe_m1 slot ty rule ho he (star_cons _ _ hs) (base_plain hb _ _ _) hl).imp fun σ H Q q => ?_)
  obtain ⟨G, env, F, S, r⟩ := q
  refine ⟨G, env, F, S, Rd.bind r fun x e1 v F1 H1 sm1 S1 h1 q1 => ?_⟩
  split at q1
  · rename_i hk
    obtain ⟨z, hz⟩ := hstr _ hk
    have hv := S1.rs hz h1
    cases hv
    refine ⟨⟨z, rfl⟩, ?_⟩
    have q1' : Rd (gx X) W G σ F1 (RV (gx X) G σ) ((fa e1).bind fun y e2 => liftO ((rsO e2 x).bind fun p => (rsOs e2 [y]).bind fun ps => mthP m p ps) e2) Q := by
      rw [has, Out.assoc] at q1; exact q1
    refine ⟨G, e1, F1, S1, Rd.bind q1' fun y e2 w F2 H2 sm2 S2 h2 q2 => ?_⟩
    obtain ⟨r, e3, k⟩ := liftO_new S2 q2
    obtain ⟨p, e4, e5⟩ := Option.bind_eq_some_iff.mp e3
    obtain ⟨ps, e6, e7⟩ := Option.bind_eq_some_iff.mp e5
    exact ⟨F2, p, ps, r, S2.sub, S2.rs e4 (h1.mono sm2), S2.rss e6 ⟨w, [], rfl, h2, rfl⟩, e7, k⟩
  · exact q1.elim

/-! ### calls of defs -/
def AgR (g : Gx) (G : Ent) (σ : L2.St) (e : En) (F H : Hp) : List Bool → List Arg → List V → Prop
  | [], gs, vs => gs = [] ∧ vs = []
  | m :: ms, gs, vs => ∃ a r v vr, gs = a :: r ∧ vs = v :: vr ∧ (match m, a with
      | false, .val p => Rep g F p v
      | true, .slot i => σ[i]? = some (some v)
      | true, .tmp p => ms = [] ∧ ∃ b, v = .ref b ∧ F b = none ∧ OwnR g F H p b ∧ G.H b = none ∧ Apart e σ b
      | _, _ => False) ∧ AgR g G σ e F H ms r vr
abbrev RA (g : Gx) (sg : List Bool) (G : Ent) (σ : L2.St) : List Arg → En → List V → Hp → Hp → Prop := fun gs e vs F H => AgR g G σ e F H sg gs vs
abbrev tA (g : Gx) (W : WX) (sg : List Bool) (f : En → Out (List Arg)) : TA := tG g W (fun G σ => RA g sg G σ) f
theorem cg_nil : PA X [] (tA (gx X) W [] (evArg C .nil [])) := pa_nil.imp fun σ H Q q => by
  obtain ⟨G, env, F, S, r⟩ := q
  exact r [] F H (.refl _) S ⟨rfl, rfl⟩
theorem cg_val {a r : IE} {e : Expr} {es : List Expr} {sg : List Bool} (hs : isStar e = false) (ha : CE X C W a e) (hr : PA X es (tA (gx X) W sg (evArg C r sg))) : PA X (e :: es) (tA (gx X) W (false :: sg) (evArg C (.cons a r) (false :: sg))) := by
  refine (pa_cons ha.1 hr (star_cons X.env es hs)).imp fun σ H Q q => ?_
  obtain ⟨G, env, F, S, r⟩ := q
  have r' : Rd (gx X) W G σ F (RA (gx X) (false :: sg) G σ) (((ev C a).1 env).bind fun x e1 => (evArg C _ sg e1).bind fun xs e2 => .ok (.val x.1 :: xs) e2) Q := r
  refine ⟨G, env, F, S, Rd.bind r' fun x e1 v F1 H1 sm1 S1 h1 q1 => ?_⟩
  obtain ⟨F2, S2, r2, sm2⟩ := S1.fix h1
  refine ⟨G, e1, F2, S2, Rd.bind (q1.at sm2) fun xs e2 vs F3 H3 sm3 S3 h3 q3 => ?_⟩
  exact q3 (v :: vs) F3 H3 (.refl _) S3 ⟨_, _, v, vs, rfl, rfl, r2.mono sm3, h3⟩
theorem cg_slot (K : Cok X C W N sc) {i : Nat} {r : IE} {x : Str} {pos : Pos} {es : List Expr} {sg : List Bool} (hN : N[i]? = some x) (hv : visB sc x = true) (hr : PA X es (tA (gx X) W sg (evArg C r sg))) :
    PA X (.Name x pos :: es) (tA (gx X) W (true :: sg) (evArg C (.cons (.var i) r) (true :: sg))) := by
  obtain ⟨v1, v2, v3⟩ := K.vis hv
  have hN' : X.N[i]? = some x := by rw [K.hN]; exact hN
  refine (pa_cons (pe_var hN' v1 v2 v3) hr (star_cons X.env es rfl)).imp fun σ H Q q => ?_
  obtain ⟨G, env, F, S, r⟩ := q
  have r' : Rd (gx X) W G σ F (RA (gx X) (true :: sg) G σ) (match env[i]? with
        | some (some (_, .fz)) => .bad
        | some (some (_, _)) => (evArg C _ sg env).bind fun xs e2 => .ok (.slot i :: xs) e2
        | _ => .bad) Q := r
  split at r'
  · exact r'.elim
  · rename_i p fl h1 h
    obtain ⟨v, e1, _⟩ := S.peek h
    refine ⟨v, e1, ⟨G, env, F, S, Rd.bind r' fun xs e2 vs F3 H3 sm3 S3 h3 q3 => ?_⟩⟩
    exact q3 (v :: vs) F3 H3 (.refl _) S3 ⟨_, _, v, vs, rfl, rfl, e1, h3⟩
  · exact r'.elim
theorem cg_tmp {a : IE} {e : Expr} (hn : ∀ i, a ≠ .var i) (hs : isStar e = false) (ha : CE X C W a e) : PA X [e] (tA (gx X) W [true] (evArg C (.cons a .nil) [true])) := by
  refine (pa_cons ha.1 pa_nil (star_cons X.env [] hs)).imp fun σ H Q q => ?_
  obtain ⟨G, env, F, S, r⟩ := q
  have r' : Rd (gx X) W G σ F (RA (gx X) [true] G σ) (((ev C a).1 env).bind fun x e1 => match x.2 with
        | .own => .ok [.tmp x.1] e1
        | _ => .bad) Q := by
    cases a <;> first | exact r | exact absurd rfl (hn _)
  refine ⟨G, env, F, S, Rd.bind r' fun x e1 v F1 H1 sm1 S1 h1 q1 => ?_⟩
  split at q1
  · rename_i hx
    refine q1 [v] F1 H1 (.refl _) S1 ⟨_, _, v, [], rfl, rfl, ⟨rfl, ?_⟩, rfl, rfl⟩
    have h1' : VR (gx X) G e1 σ F1 H1 x v := h1
    unfold VR at h1'
    rw [hx] at h1'
    exact h1'
  · exact q1.elim
theorem muts_false (ms : List Bool) (v : V) (vs : List V) : muts (false :: ms) (v :: vs) = muts ms vs := rfl
theorem muts_true (ms : List Bool) (a : Addr) (vs : List V) : muts (true :: ms) (.ref a :: vs) = a :: muts ms vs := rfl
/-- what the caller knows of the arguments -/
theorem args_ok {g : Gx} {G : Ent} {σ : L2.St} {e : En} {F H : Hp} (S : Sx g G e σ F H) : ∀ {sg : List Bool} {gs : List Arg} {vs : List V} {ps : List PV}, AgR g G σ e F H sg gs vs → argVs e gs = some ps → (slotsOf gs).Nodup →
    AR g F H sg ps vs ∧ (muts sg vs).Nodup ∧ ∀ a ∈ muts sg vs, F a = none ∧ (G.M a ∨ G.H a = none) ∧ ((∃ i ∈ slotsOf gs, ∃ p, e[i]? = some (some p) ∧ p.2 ≠ .fz ∧ σ[i]? = some (some (.ref a))) ∨ (G.H a = none ∧ Apart e σ a))
  | [], _, _, _, h, ev, _ => by
    obtain ⟨rfl, rfl⟩ := h
    cases ev
    exact ⟨⟨rfl, rfl⟩, .nil, fun a ha => by cases ha⟩
  | m :: ms, _, _, ps, h, ev, nd => by
    obtain ⟨a, r, v, vr, rfl, rfl, h1, h2⟩ := h
    obtain ⟨p, e1, e2⟩ := Option.bind_eq_some_iff.mp (show (argV e a).bind (fun p => (argVs e r).map (p :: ·)) = some ps from ev)
    obtain ⟨qs, e3, e4⟩ := Option.map_eq_some_iff.mp e2
    subst e4
    cases m with
    | false =>
      cases a with
      | val q =>
        cases e1
        obtain ⟨i1, i2, i3⟩ := args_ok S h2 e3 nd
        exact ⟨⟨_, _, v, vr, rfl, rfl, by rw [if_neg (by simp)]; exact h1, i1⟩, i2, i3⟩
      | slot i => exact h1.elim
      | tmp q => exact h1.elim
    | true =>
      cases a with
      | val q => exact h1.elim
      | slot i =>
        have nd' : (i :: slotsOf r).Nodup := nd
        obtain ⟨ni, nr⟩ := List.nodup_cons.mp nd'
        obtain ⟨i1, i2, i3⟩ := args_ok S h2 e3 nr
        have hsl : ∃ fl, e[i]? = some (some (p, fl)) ∧ fl ≠ .fz := by
          have e1' : (match e[i]? with
            | some (some (p, .own)) => some p
            | some (some (p, .bor)) => some p
            | _ => none) = some p := e1
          split at e1'
          · rename_i h; cases e1'; exact ⟨.own, h, by simp⟩
          · rename_i h; cases e1'; exact ⟨.bor, h, by simp⟩
          · cases e1'
        obtain ⟨fl, hi, hf⟩ := hsl
        obtain ⟨b, s1, s2, s3, s4, s5⟩ := S.own i p fl hi hf
        have h1' : σ[i]? = some (some v) := h1
        rw [s1] at h1'; cases h1'
        refine ⟨⟨_, _, _, vr, rfl, rfl, by rw [if_pos rfl]; exact ⟨b, rfl, s2, s3⟩, i1⟩, ?_, ?_⟩
        · rw [muts_true]
          refine List.nodup_cons.mpr ⟨fun hb => ?_, i2⟩
          rcases (i3 b hb).2.2 with ⟨j, hj, q, q1, q2, q3⟩ | ⟨_, ap⟩
          · have := S.inj i j (p, fl) q b hi hf q1 q2 s1 q3
            subst this
            exact ni hj
          · exact ap i (p, fl) hi hf s1
        · intro c hc
          rw [muts_true] at hc
          rcases List.mem_cons.mp hc with rfl | hc
          · exact ⟨s2, s4, .inl ⟨i, by simp [slotsOf], (p, fl), hi, hf, s1⟩⟩
          · obtain ⟨j1, j2, j3⟩ := i3 c hc
            refine ⟨j1, j2, ?_⟩
            rcases j3 with ⟨j, hj, w⟩ | w
            · exact .inl ⟨j, by show j ∈ i :: slotsOf r; exact List.mem_cons_of_mem _ hj, w⟩
            · exact .inr w
      | tmp q =>
        cases e1
        obtain ⟨rfl, b, rfl, t1, t2, t3, t4⟩ := h1
        obtain ⟨rfl, rfl⟩ := h2
        cases e3
        refine ⟨⟨_, _, _, _, rfl, rfl, by rw [if_pos rfl]; exact ⟨b, rfl, t1, t2⟩, rfl, rfl⟩, by simp [muts], fun c hc => ?_⟩
        have : c = b := by simpa [muts] using hc
        subst this
        exact ⟨t1, .inr t3, .inr ⟨t3, t4⟩⟩
end
end Bd

namespace Bd
open PySem L2
theorem setP_len (e : En) (i : Nat) (p : PV) : (setP e i p).length = e.length := by
  unfold setP
  split
  · simp
  · rfl
theorem setP_get {e : En} {i j : Nat} {p q : PV} {fl : Fl} (h : (setP e i p)[j]? = some (some (q, fl))) : (j = i ∧ q = p ∧ ∃ q', e[j]? = some (some (q', fl))) ∨ (j ≠ i ∧ e[j]? = some (some (q, fl))) := by
  unfold setP at h
  split at h
  · rename_i q' fl' hq
    by_cases hj : i = j
    · subst hj
      rw [List.getElem?_set_self (List.getElem?_eq_some_iff.mp hq).1] at h
      cases h
      exact .inl ⟨rfl, rfl, q', hq⟩
    · rw [List.getElem?_set_ne hj] at h
      exact .inr ⟨fun z => hj z.symm, h⟩
  · rename_i hn
    by_cases hj : i = j
    · subst hj
      exact absurd h (hn q fl)
    · exact .inr ⟨fun z => hj z.symm, h⟩
theorem argBack_len : ∀ (gs : List Arg) (ps : List PV) (e : En), (argBack gs ps e).length = e.length
  | [], _, _ => by simp [argBack]
  | .slot i :: r, [], e => by simp [argBack]
  | .slot i :: r, p :: ps, e => by
    show (argBack r ps (setP e i p)).length = _
    rw [argBack_len r ps, setP_len]
  | .tmp _ :: r, [], e => by simp [argBack]
  | .tmp _ :: r, p :: ps, e => argBack_len r ps e
  | .val _ :: r, ps, e => argBack_len r ps e
section
variable {g : Gx} {G : Ent} {σ : L2.St} {e0 : En} {F H F' H' : Hp}
theorem argBack_get : ∀ {sg : List Bool} {gs : List Arg} {vs : List V} {outs : List PV} {e : En}, AgR g G σ e0 F H sg gs vs → OutR g F' H' (muts sg vs) outs → (∀ i ∈ slotsOf gs, ∃ a, σ[i]? = some (some (.ref a))) →
    ∀ (j : Nat) (q : PV) (fl : Fl), (argBack gs outs e)[j]? = some (some (q, fl)) → ∃ p, e[j]? = some (some (p, fl)) ∧ ((j ∉ slotsOf gs ∧ q = p) ∨ (j ∈ slotsOf gs ∧ ∀ a, σ[j]? = some (some (.ref a)) → OwnR g F' H' q a))
  | [], _, _, _, e, h, o, hr => by
    obtain ⟨rfl, rfl⟩ := h
    intro j q fl hj
    exact ⟨q, by simpa [argBack] using hj, .inl ⟨by simp [slotsOf], rfl⟩⟩
  | m :: ms, _, _, outs, e, h, o, hr => by
    obtain ⟨a, r, v, vr, rfl, rfl, h1, h2⟩ := h
    cases m with
    | false =>
      cases a with
      | val p => exact fun j q fl hj => argBack_get (gs := r) h2 o hr j q fl hj
      | slot i => exact h1.elim
      | tmp q => exact h1.elim
    | true =>
      cases a with
      | val p => exact h1.elim
      | slot i =>
        have h1' : σ[i]? = some (some v) := h1
        obtain ⟨b, hb⟩ := hr i (by simp [slotsOf])
        rw [hb] at h1'; cases h1'
        obtain ⟨p0, ps, rfl, o1, o2⟩ := (show OutR g F' H' (b :: muts ms vr) outs from o)
        intro j q fl hj
        obtain ⟨p1, k1, k2⟩ := argBack_get (gs := r) (e := setP e i p0) h2 o2 (fun k hk => hr k (by show k ∈ i :: slotsOf r; exact List.mem_cons_of_mem _ hk)) j q fl hj
        rcases setP_get k1 with ⟨rfl, rfl, q', hq⟩ | ⟨hne, hq⟩
        · refine ⟨q', hq, .inr ⟨by simp [slotsOf], fun a ha => ?_⟩⟩
          rcases k2 with ⟨_, rfl⟩ | ⟨_, k3⟩
          · rw [hb] at ha; cases ha; exact o1
          · exact k3 a ha
        · refine ⟨p1, hq, ?_⟩
          rcases k2 with ⟨k3, k4⟩ | ⟨k3, k4⟩
          · exact .inl ⟨by show j ∉ i :: slotsOf r; simp [hne, k3], k4⟩
          · exact .inr ⟨by show j ∈ i :: slotsOf r; simp [k3], k4⟩
      | tmp p =>
        obtain ⟨rfl, b, rfl, _⟩ := h1
        obtain ⟨rfl, rfl⟩ := h2
        obtain ⟨p0, ps, rfl, o1, o2⟩ := (show OutR g F' H' [b] outs from o)
        intro j q fl hj
        exact ⟨q, by simpa [argBack] using hj, .inl ⟨by simp [slotsOf], rfl⟩⟩
theorem back_ok {e : En} (S : Sx g G e σ F H) {sg : List Bool} {gs : List Arg} {vs : List V} {ps outs : List PV} (ag : AgR g G σ e F H sg gs vs) (ea : argVs e gs = some ps) (nd : (slotsOf gs).Nodup) (P : CPost g F H (muts sg vs) outs F' H') :
    Sx g G (argBack gs outs e) σ F' H' := by
  obtain ⟨_, _, am⟩ := args_ok S ag ea nd
  -- each slot that is handed in owns its object
  have sl : ∀ {sg : List Bool} {gs : List Arg} {vs : List V} {ps : List PV}, AgR g G σ e F H sg gs vs → argVs e gs = some ps → ∀ i ∈ slotsOf gs, ∃ a p, σ[i]? = some (some (.ref a)) ∧ e[i]? = some (some p) ∧ p.2 ≠ .fz ∧ a ∈ muts sg vs := by
    intro sg
    induction sg with
    | nil => intro gs vs ps h _ i hi; obtain ⟨rfl, _⟩ := h; cases hi
    | cons m ms ih =>
      intro gs vs ps h ea i hi
      obtain ⟨a, r, v, vr, rfl, rfl, h1, h2⟩ := h
      obtain ⟨p, e1, e2⟩ := Option.bind_eq_some_iff.mp (show (argV e a).bind (fun p => (argVs e r).map (p :: ·)) = some ps from ea)
      obtain ⟨qs, e3, _⟩ := Option.map_eq_some_iff.mp e2
      have tail : i ∈ slotsOf r → ∃ a p, σ[i]? = some (some (.ref a)) ∧ e[i]? = some (some p) ∧ p.2 ≠ .fz ∧ a ∈ muts (m :: ms) (v :: vr) := fun hi => by
        obtain ⟨b, q, k1, k2, k3, k4⟩ := ih h2 e3 i hi
        refine ⟨b, q, k1, k2, k3, ?_⟩
        cases m with
        | false => exact k4
        | true => cases v <;> first | exact List.mem_cons_of_mem _ k4 | exact k4
      cases a with
      | val q => exact tail hi
      | tmp q => exact tail hi
      | slot k =>
        rcases List.mem_cons.mp (show i ∈ k :: slotsOf r from hi) with rfl | hi
        · have e1' : (match e[i]? with
            | some (some (p, .own)) => some p
            | some (some (p, .bor)) => some p
            | _ => none) = some p := e1
          cases m with
          | false => exact h1.elim
          | true =>
            have h1' : σ[i]? = some (some v) := h1
            split at e1'
            · rename_i h
              obtain ⟨b, s1, _⟩ := S.own i _ .own h (by simp)
              rw [s1] at h1'; cases h1'
              exact ⟨b, _, s1, h, by simp, by rw [muts_true]; simp⟩
            · rename_i h
              obtain ⟨b, s1, _⟩ := S.own i _ .bor h (by simp)
              rw [s1] at h1'; cases h1'
              exact ⟨b, _, s1, h, by simp, by rw [muts_true]; simp⟩
            · cases e1'
        · exact tail hi
  have get := argBack_get (F := F) (H := H) (e0 := e) (e := e) ag P.outs (fun i hi => by obtain ⟨a, _, h, _⟩ := sl ag ea i hi; exact ⟨a, h⟩)
  have notM : ∀ a o, G.H a = some o → ¬ G.M a → a ∉ muts sg vs := fun a o h1 h2 hm => by
    rcases (am a hm).2.1 with z | z
    · exact h2 z
    · rw [h1] at z; cases z
  refine ⟨P.sub, S.f0.trans P.sF, fun a o h1 h2 => P.keep a o (S.h0 a o h1 h2) (notM a o h1 h2), fun a o h1 h2 h3 => ?_, fun a o h1 => ?_, by rw [argBack_len]; exact S.len, fun i pv h => ?_, fun i pv fl h hf => ?_, fun i j p q a h1 f1 h2 f2 s1 s2 => ?_, fun i pv h => ?_⟩
  · obtain ⟨o', e1⟩ := S.th a o h1
    exact P.nf a o' e1 (S.nf a o h1 h2 h3)
  · obtain ⟨o', e1⟩ := S.th a o h1
    exact P.th a o' e1
  · obtain ⟨p, k1, k2⟩ := get i pv .fz h
    rcases k2 with ⟨_, rfl⟩ | ⟨k3, _⟩
    · obtain ⟨v, e1, r⟩ := S.fz i _ k1
      exact ⟨v, e1, r.mono P.sF⟩
    · obtain ⟨a, q, _, k4, k5, _⟩ := sl ag ea i k3
      rw [k1] at k4; cases k4
      exact absurd rfl k5
  · obtain ⟨p, k1, k2⟩ := get i pv fl h
    obtain ⟨a, s1, s2, s3, s4, s5⟩ := S.own i p fl k1 hf
    obtain ⟨o, eo⟩ := s3.here
    refine ⟨a, s1, P.nf a o eo s2, ?_, s4, s5⟩
    rcases k2 with ⟨k3, rfl⟩ | ⟨_, k4⟩
    · refine s3.mono P.sF fun o' q => P.keep a o' q fun hm => ?_
      rcases (am a hm).2.2 with ⟨j, hj, q', q1, q2, q3⟩ | ⟨_, ap⟩
      · have := S.inj i j _ q' a k1 hf q1 q2 s1 q3
        subst this
        exact k3 hj
      · exact ap i _ k1 hf s1
    · exact k4 a s1
  · obtain ⟨p', k1, _⟩ := get i p.1 p.2 h1
    obtain ⟨q', k2, _⟩ := get j q.1 q.2 h2
    exact S.inj i j (p', p.2) (q', q.2) a k1 f1 k2 f2 s1 s2
  · obtain ⟨p, k1, _⟩ := get i pv .bor h
    exact S.bo i p k1
theorem back_val {e : En} (S : Sx g G e σ F H) {sg : List Bool} {gs : List Arg} {vs : List V} {ps outs : List PV} (ag : AgR g G σ e F H sg gs vs) (ea : argVs e gs = some ps) (nd : (slotsOf gs).Nodup) (P : CPost g F H (muts sg vs) outs F' H') {r : PV × Fl} {v : V}
    (cv : CV g H F' H' r v) : VR g G (argBack gs outs e) σ F' H' r v := by
  have S' := back_ok S ag ea nd P
  obtain ⟨p, fl⟩ := r
  cases fl with
  | fz => exact cv
  | bor => exact cv
  | own =>
    obtain ⟨a, e1, e2, e3, e4⟩ := cv
    refine ⟨a, e1, e3, e4, ?_, fun i q hi hf z => ?_⟩
    · cases w : G.H a with
      | none => rfl
      | some o => obtain ⟨o', e5⟩ := S.th a o w; rw [e2] at e5; cases e5
    · -- an owner's object stood ahead of the call
      obtain ⟨b, s1, s2, s3, s4, s5⟩ := S'.own i q.1 q.2 hi hf
      rw [z] at s1; cases s1
      have get := argBack_len gs outs e
      have : ∃ q', e[i]? = some (some q') ∧ q'.2 ≠ .fz := by
        have sl : ∀ (gs : List Arg) (outs : List PV) (e : En) (i : Nat) (q : PV × Fl), (argBack gs outs e)[i]? = some (some q) → ∃ p, e[i]? = some (some (p, q.2)) := by
          intro gs
          induction gs with
          | nil => intro outs e i q h; exact ⟨q.1, by simpa [argBack] using h⟩
          | cons a r ih =>
            intro outs e i q h
            cases a with
            | val p => exact ih outs e i q h
            | tmp p =>
              cases outs with
              | nil => exact ⟨q.1, by simpa [argBack] using h⟩
              | cons _ _ => exact ih _ e i q h
            | slot k =>
              cases outs with
              | nil => exact ⟨q.1, by simpa [argBack] using h⟩
              | cons p0 ps =>
                obtain ⟨p1, h1⟩ := ih ps (setP e k p0) i q h
                rcases setP_get h1 with ⟨rfl, _, q', hq⟩ | ⟨_, hq⟩
                · exact ⟨q', hq⟩
                · exact ⟨p1, hq⟩
        obtain ⟨p, hp⟩ := sl gs outs e i q hi
        exact ⟨(p, q.2), hp, hf⟩
      obtain ⟨q', h1, h2⟩ := this
      obtain ⟨c, t1, _, t3, _⟩ := S.own i q'.1 q'.2 h1 h2
      rw [z] at t1; cases t1
      obtain ⟨o, eo⟩ := t3.here
      rw [e2] at eo; cases eo
end
section
variable {X : Cx} {C : Cal} {W : WX} {N : List Str} {sc : Scope}
theorem doCall_sp {f : Str} {sg : List Bool} {gs : List Arg} {e : En} {G : Ent} {σ : L2.St} {F H : Hp} {vs : List V} {Q : VK} (hsg : C.sig f = some sg) (S : Sx (gx X) G e σ F H) (ag : AgR (gx X) G σ e F H sg gs vs) (h : Rd (gx X) W G σ F (RV (gx X) G σ) (doCall C f gs e) Q) :
    spF (gx X) C f vs H Q (WE W σ) := by
  unfold doCall at h
  split at h
  · exact h.elim
  · rename_i ps ea
    split at h
    · rename_i nd
      obtain ⟨a1, a2, a3⟩ := args_ok S ag ea nd
      refine ⟨F, ps, sg, S.sub, hsg, a1, a2, ?_⟩
      cases q : C.run f ps with
      | ok r outs =>
        rw [q] at h
        exact fun v F' H' P cv => h v F' H' P.sF (back_ok S ag ea nd P) (back_val S ag ea nd P cv)
      | exc x outs =>
        rw [q] at h
        exact fun cls d F' H' P xr => h cls d F' H' P.sF (back_ok S ag ea nd P) xr
      | bad =>
        rw [q] at h
        exact h
    · exact h.elim
theorem ce_call (K : Cok X C W N sc) {f : Str} {as : IE} {es : List Expr} {p pos : Pos} (hg : glB sc f = true) (hs : (es.all fun e => !isStar e) = true) (hn : es = [] → as = .nil) (h : ∀ sg, C.sig f = some sg → PA X es (tA (gx X) W sg (evArg C as sg))) :
    CE X C W (.call f as) (.Call (.Name f p) es [] pos) := by
  obtain ⟨h1, h2⟩ := K.gl hg
  refine ce_vt (f := fun e => match C.sig f with
    | none => .bad
    | some sg => (evArg C as sg e).bind fun gs e1 => doCall C f gs e1) rfl rfl ?_
  cases q : C.sig f with
  | none =>
    refine ⟨fun pins s σ H Q I r => ?_⟩
    obtain ⟨G, env, F, S, r⟩ := r
    exact r.elim
  | some sg =>
    obtain ⟨n, fa, fd, ps, FO, hr, hm, hk, hb, _⟩ := K.cal f sg q
    have go : ∀ σ H Q, tE (gx X) W (fun e => (evArg C as sg e).bind fun gs e1 => doCall C f gs e1) σ H Q → tCallS (spF (gx X) C f) (WE W) (tA (gx X) W sg (evArg C as sg)) σ H Q := fun σ H Q r => by
      obtain ⟨G, env, F, S, r⟩ := r
      refine ⟨G, env, F, S, Rd.bind r fun gs e1 vs F1 H1 sm1 S1 h1 q1 => ?_⟩
      exact doCall_sp q S1 h1 q1
    cases es with
    | nil =>
      refine ⟨fun pins s σ H Q I r => ?_⟩
      have r' := go σ H Q r
      refine wpAny_Call_Name_kw (ld_glob I h1 hm ?_ h2)
      have pa : PA X [] (tA (gx X) W sg (evArg C as sg)) := h sg q
      refine PySem.W.callWith_K0 I.kIn hk ?_
      -- no arguments
      have z : spF (gx X) C f [] H Q (WE W σ) := by
        obtain ⟨G, env, F, S, r1⟩ := r
        rw [hn rfl] at r1
        cases sg with
        | nil => exact doCall_sp q S ⟨rfl, rfl⟩ r1
        | cons _ _ => exact r1.elim
      exact run_fnS (us := []) FO hr hb (passAt K.takes σ) I .nil z
    | cons e es =>
      obtain ⟨s1, s2⟩ := band (show (!isStar e && es.all fun e => !isStar e) = true from hs)
      exact (pe_callS FO hr h1 hm hk hb (fun σ => passAt K.takes σ) (h sg q) h2 (star_cons _ _ (nott s1)) (any_star _ _ _ s2)).imp go
/-- keywords -/
structure KwOk (X : Cx) (C : Cal) (W : WX) (r : IE) (ks : List Str) (kws : List Keyword) : Prop where
  f : PK X kws (tF (gx X) W (evF C r))
  all : ∀ pos, (backToKw pos (keywordEach kws X.env)).all (·.1.isSome) = true
  nm : ∀ pos, (backToKw pos (keywordEach kws X.env)).filterMap (·.1) = ks
  no : ∀ pos, (backToKw pos (keywordEach kws X.env)).any (·.1.isNone) = false
theorem kw_ok : ∀ (r : IE) (ks : List Str) (kws : List Keyword), chkK N r sc ks kws = true → (∀ a e, sizeOf a < sizeOf r → chkE N a sc e = true → CE X C W a e) → KwOk X C W r ks kws
  | .nil, [], [], _, _ => ⟨⟨fun pos pins s σ H Q I q => by
      obtain ⟨G, env, F, S, r⟩ := q
      exact pk_nil.run pos pins s σ H Q I (r [] F H (.refl _) S rfl)⟩, fun _ => rfl, fun _ => rfl, fun _ => rfl⟩
  | .cons a r, y :: ys, ⟨some x, e, kp⟩ :: kws, hc, ih => by
    obtain ⟨h12, h3⟩ := band (show (decide (y = x) && chkE N a sc e && chkK N r sc ys kws) = true from hc)
    obtain ⟨h1, h2⟩ := band h12
    have : y = x := of_decide_eq_true h1
    subst this
    have A := kw_ok r ys kws h3 fun b e hb he => ih b e (by simp; omega) he
    have B := ih a e (by simp; omega) h2
    refine ⟨⟨fun pos pins s σ H Q I q => (pk_cons B.1 A.f).run pos pins s σ H Q I ?_⟩, fun pos => A.all pos, fun pos => ?_, fun pos => A.no pos⟩
    · obtain ⟨G, env, F, S, r⟩ := q
      refine ⟨G, env, F, S, Rd.bind (show Rd (gx X) W G σ F (RF (gx X)) (((ev C a).1 env).bind fun x e1 => (evF C _ e1).bind fun xs e2 => .ok (x.1 :: xs) e2) Q from r) fun x e1 v F1 H1 sm1 S1 h1 q1 => ?_⟩
      obtain ⟨F2, S2, r2, sm2⟩ := S1.fix h1
      refine ⟨G, e1, F2, S2, Rd.bind (Rd.at q1 sm2) fun xs e2 vs F3 H3 sm3 S3 h3 q3 => ?_⟩
      exact q3 (v :: vs) F3 H3 (.refl _) S3 ⟨v, vs, rfl, r2.mono sm3, h3⟩
    · show y :: (backToKw pos (keywordEach kws X.env)).filterMap (·.1) = _
      rw [A.nm pos]
theorem reps_pick {g : Gx} {F : Hp} {ps : List PV} {vs : List V} (h : Reps g F ps vs) : ∀ pm : List Nat, Reps g F (pick ps pm) (pick vs pm)
  | [] => rfl
  | i :: r => by
    unfold pick
    have ih := reps_pick h r
    cases q : ps[i]? with
    | none =>
      have : vs[i]? = none := by
        rw [List.getElem?_eq_none_iff] at q ⊢
        rw [h.length]; exact q
      rw [this]; exact ih
    | some p =>
      obtain ⟨v, e1, e2⟩ := h.get q
      rw [e1]
      exact ⟨v, _, rfl, e2, ih⟩
theorem agr_vals {g : Gx} {G : Ent} {σ : L2.St} {e : En} {F H : Hp} : ∀ {ps : List PV} {vs : List V}, Reps g F ps vs → AgR g G σ e F H (ps.map fun _ => false) (ps.map Arg.val) vs
  | [], _, h => by cases h; exact ⟨rfl, rfl⟩
  | p :: ps, _, h => by
    obtain ⟨v, vr, rfl, h1, h2⟩ := h
    have ih := agr_vals (G := G) (σ := σ) (e := e) (H := H) h2
    first
      | exact ⟨_, _, _, _, rfl, rfl, h1, ih⟩
      | exact ⟨_, _, rfl, rfl, h1, ih⟩
theorem vals_pick {vs : List V} {us : List Value} (h : Vals vs us) : ∀ pm : List Nat, Vals (pick vs pm) (pick us pm) := by
  intro pm
  induction pm with
  | nil => exact .nil
  | cons i r ih =>
    unfold pick
    have hl := h.length
    cases q : vs[i]? with
    | none =>
      have : us[i]? = none := by
        rw [List.getElem?_eq_none_iff] at q ⊢
        omega
      rw [this]; exact ih
    | some p =>
      have hi : i < us.length := by
        have := (List.getElem?_eq_some_iff.mp q).1
        omega
      have e : us[i]? = some us[i] := List.getElem?_eq_getElem hi
      rw [e]
      refine .cons ?_ ih
      have key : ∀ {vs : List V} {us : List Value}, Vals vs us → ∀ (i : Nat) v u, vs[i]? = some v → us[i]? = some u → RelV v u := by
        intro vs us h
        induction h with
        | nil => intro i v u e; simp at e
        | cons r _ ih =>
          intro i v u e1 e2
          cases i with
          | zero => simp at e1 e2; subst e1 e2; exact r
          | succ i => exact ih i v u (by simpa using e1) (by simpa using e2)
      exact key h i _ _ q e
theorem run_kwS {k n : Nat} {f : Addr} {fd : FuncData} {ps ks : List Str} {sp : Sp} {E : XK} {ga : List Value → List Value → List Value} {gV : List V → List V → List V} {pins : List (Addr × Obj)} {σ : L2.St} {H : Hp} {s : Shared} {Q : VK} {us ws : List Value} {vs zs : List V} (F : FnOk X.prog X.w X.K X.mg X.base (L2.CX X.prog X.w) k f fd ps sp) (hr : Room k X.A) (hb : KBn X.K fd ps n ks ga gV) (hx : PassesAt (L2.CX X.prog X.w) X σ E)
    (I : Inv X pins σ H s) (r : Vals vs us) (rz : Vals zs ws) (l1 : vs.length = n) (l2 : zs.length = ks.length) (h : sp (gV vs zs) H Q E) : wpAny (model X.prog X.w) X.A (call (.ref f) us (ks.zip ws)) (EP X pins σ Q) X.xe s := by
  refine wpAny_call (codeAny_mono (F.run X.A X.stack s H ⟨us, ks.zip ws⟩ (ga us ws) (gV vs zs) Q E hr I.env0 (hb.to s us ws I.kIn (r.length.symm.trans l1) (rz.length.symm.trans l2)) (hb.rel r rz) h) fun r s' hq => ?_)
  cases r with
  | error e => exact hx pins H s e s' I hq
  | ok fl => cases fl <;> first | exact I.after hq | exact False.elim hq
theorem ce_callk (K : Cok X C W N sc) {f : Str} {n : Nat} {ks : List Str} {ap ak : IE} {es : List Expr} {kws : List Keyword} {p pos : Pos} (hg : glB sc f = true) (hs : (es.all fun e => !isStar e) = true) (hp : PA X es (tF (gx X) W (evF C ap))) (hn : es = [] → ap = .nil) (hk' : KwOk X C W ak ks kws) :
    CE X C W (.callk f n ks ap ak) (.Call (.Name f p) es kws pos) := by
  obtain ⟨h1, h2⟩ := K.gl hg
  refine ce_vt (f := fun e => match C.sig f, C.kw f n ks with
    | some sg, some pm => (evF C ap e).bind fun us e1 => (evF C ak e1).bind fun ws e2 => kwCall C f sg n ks pm us ws e2
    | _, _ => .bad) rfl rfl ?_
  cases q : C.sig f with
  | none =>
    refine ⟨fun pins s σ H Q I r => ?_⟩
    obtain ⟨G, env, F, S, r⟩ := r
    exact r.elim
  | some sg =>
    cases qk : C.kw f n ks with
    | none =>
      refine ⟨fun pins s σ H Q I r => ?_⟩
      obtain ⟨G, env, F, S, r⟩ := r
      exact r.elim
    | some pm =>
      obtain ⟨m, fa, fd, ps, FO, hr, hm, hk, hb, hkb⟩ := K.cal f sg q
      have B := hkb n ks pm qk
      have go : ∀ σ H Q, tE (gx X) W (fun e => (evF C ap e).bind fun us e1 => (evF C ak e1).bind fun ws e2 => kwCall C f sg n ks pm us ws e2) σ H Q →
          tF (gx X) W (evF C ap) σ H fun vs H1 => tF (gx X) W (evF C ak) σ H1 fun zs H2 => vs.length = n ∧ zs.length = ks.length ∧ spF (gx X) C f (pick (vs ++ zs) pm) H2 Q (WE W σ) := fun σ H Q r => by
        obtain ⟨G, env, F, S, r⟩ := r
        refine ⟨G, env, F, S, Rd.bind r fun us e1 vs F1 H1 sm1 S1 h1 q1 => ?_⟩
        refine ⟨G, e1, F1, S1, Rd.bind q1 fun ws e2 zs F2 H2 sm2 S2 h2 q2 => ?_⟩
        unfold kwCall at q2
        split at q2
        · rename_i hc
          obtain ⟨c1, c2, c3⟩ := hc
          have hv : Reps (gx X) F2 us vs := Reps.mono sm2 _ h1
          refine ⟨by rw [hv.length]; exact c2, by rw [Reps.length h2]; exact c3, ?_⟩
          have ag := agr_vals (G := G) (σ := σ) (e := e2) (H := H2) (reps_pick (hv.append h2) pm)
          rw [← c1] at ag
          exact doCall_sp q S2 ag q2
        · exact q2.elim
      refine ⟨fun pins s σ H Q I r => ?_⟩
      have r' := go σ H Q r
      refine wpAny_Call_Name_kw (ld_glob I h1 hm ?_ h2)
      cases es with
      | nil =>
        have st : ((backTo pos (starEach [] X.env)).any (·.1) || (backToKw pos (keywordEach kws X.env)).any (·.1.isNone)) = false := by rw [hk'.no pos]; rfl
        refine PySem.W.callWith_KW0 (h₀ := X.base) I.ok.mod.kin hk (hk'.all pos) ?_ st
        have r2 : tF (gx X) W (evF C ak) σ H fun zs H2 => ([] : List V).length = n ∧ zs.length = ks.length ∧ spF (gx X) C f (pick ([] ++ zs) pm) H2 Q (WE W σ) := by
          obtain ⟨G, env, F, S, r3⟩ := r'
          rw [hn rfl] at r3
          exact r3 [] F H (.refl _) S rfl
        refine thn (hk'.f.run pos pins s σ H _ I r2) fun ws s2 ⟨zs, H2, I2, rz, l1, l2, q2⟩ => ⟨I2.kIn, ?_⟩
        rw [hk'.nm pos]
        exact run_kwS (us := []) (vs := []) FO hr B (passAt K.takes σ) I2 .nil rz l1 l2 q2
      | cons e es =>
        obtain ⟨s1, s2⟩ := band (show (!isStar e && es.all fun e => !isStar e) = true from hs)
        have st : ((backTo pos (starEach (e :: es) X.env)).any (·.1) || (backToKw pos (keywordEach kws X.env)).any (·.1.isNone)) = false := by
          rw [hk'.no pos, any_star _ _ _ hs]; rfl
        refine PySem.W.callWith_KW (h₀ := X.base) I.ok.mod.kin hk (hk'.all pos) (thn (hp.run pos pins s σ H _ I r') fun us s1 ⟨vs, H1, I1, r, q⟩ => ?_) st (star_cons _ _ (nott s1))
        refine thn (hk'.f.run pos pins s1 σ H1 _ I1 q) fun ws s2 ⟨zs, H2, I2, rz, l1, l2, q2⟩ => ⟨I2.kIn, ?_⟩
        rw [hk'.nm pos]
        exact run_kwS FO hr B (passAt K.takes σ) I2 r rz l1 l2 q2
end
end Bd

namespace Bd
open PySem L2

/-! ### what is walked -/
/-- an iterator that hands on these values, whatever grows meanwhile -/
def RI (g : Gx) : List PV → En → It → Hp → Hp → Prop := fun xs _ J F _ => ∀ F1 H1, Same F F1 → Same F1 H1 →
  (∀ (i : Nat) p, xs[i]? = some p → J.go i H1 ∧ ∀ x H', J.yld i H1 x H' → ∃ F', New F1 H1 F' H' ∧ Rep g F' p x) ∧ J.stop xs.length H1
def itO (o : Option (List PV)) (e : En) : Out (List PV) := match o with
  | some xs => .ok xs e
  | none => .bad
def evIt (C : Cal) (it : IE) (e : En) : Out (List PV) := ((ev C it).1 e).bind fun r e1 => itO (itemsP r.1) e1
abbrev tI (g : Gx) (W : WX) (f : En → Out (List PV)) : TI := tG g W (fun _ _ => RI g) f
section
variable {X : Cx} {C : Cal} {W : WX} {N : List Str} {sc : Scope}
theorem ri_list {g : Gx} {F : Hp} {a : Addr} {xs : List PV} {vs : List V} {e : En} {H : Hp} (h : F a = some (.lst vs)) (r : Reps g F xs vs) : RI g xs e (Itl g.K a) F H := by
  intro F1 H1 s1 s2
  have hq : SqL g.K H1 a vs := .inl (.inl (s2 _ _ (s1 _ _ h)))
  refine ⟨fun i p hp => ?_, vs, hq, by rw [r.length]; exact Nat.le_refl _⟩
  obtain ⟨v, e1, e2⟩ := r.get hp
  refine ⟨⟨vs, v, hq, e1⟩, fun x H' y => ?_⟩
  obtain ⟨rfl, y⟩ := y
  have := y vs hq
  rw [e1] at this; cases this
  exact ⟨F1, .refl s2, e2.mono s1⟩
theorem ri_tup {g : Gx} {F : Hp} {a : Addr} {xs : List PV} {vs : List V} {e : En} {H : Hp} (h : SqT g.K F a vs) (r : Reps g F xs vs) : RI g xs e (Itt g.K a) F H := by
  intro F1 H1 s1 s2
  have hq : SqT g.K H1 a vs := Same.tseq s2 (Same.tseq s1 h)
  refine ⟨fun i p hp => ?_, vs, hq, by rw [r.length]; exact Nat.le_refl _⟩
  obtain ⟨v, e1, e2⟩ := r.get hp
  refine ⟨⟨vs, v, hq, e1⟩, fun x H' y => ?_⟩
  obtain ⟨rfl, y⟩ := y
  have := y vs hq
  rw [e1] at this; cases this
  exact ⟨F1, .refl s2, e2.mono s1⟩
theorem ri_str {g : Gx} {F : Hp} {z : Str} {e : En} {H : Hp} : RI g (z.cps.toList.map fun c => .str ⟨#[c]⟩) e (Its z) F H := by
  intro F1 H1 s1 s2
  refine ⟨fun i p hp => ?_, by show z.cps.size ≤ _; simp⟩
  rw [List.getElem?_map] at hp
  obtain ⟨c, e1, e2⟩ := Option.map_eq_some_iff.mp hp
  subst e2
  have e1' : z.cps[i]? = some c := by simpa using e1
  refine ⟨(Array.getElem?_eq_some_iff.mp e1').1, fun x H' y => ?_⟩
  obtain ⟨rfl, c', e3, rfl⟩ := y
  rw [e1'] at e3; cases e3
  exact ⟨F1, .refl s2, rfl⟩
theorem ri_rng {g : Gx} {F : Hp} {lo hi : Int} {e : En} {H : Hp} : RI g (rngItems lo hi) e (Itr lo (hi - lo).toNat) F H := by
  intro F1 H1 s1 s2
  unfold rngItems
  refine ⟨fun i p hp => ?_, by show (hi - lo).toNat ≤ _; simp⟩
  rw [List.getElem?_map] at hp
  obtain ⟨k, e1, e2⟩ := Option.map_eq_some_iff.mp hp
  subst e2
  obtain ⟨h1, h2⟩ := List.getElem?_eq_some_iff.mp e1
  have hi' : i < (hi - lo).toNat := by simpa using h1
  have hk : k = i := by simpa using h2.symm
  subst hk
  refine ⟨hi', fun x H' y => ?_⟩
  obtain ⟨rfl, rfl⟩ := y
  exact ⟨F1, .refl s2, rfl⟩
theorem enm_get : ∀ (xs : List PV) (n i : Nat) (p : PV), (enmItems n xs)[i]? = some p → ∃ q, xs[i]? = some q ∧ p = .tup [.int ((n + i : Nat) : Int), q]
  | [], _, _, _, h => by simp [enmItems] at h
  | x :: xs, n, 0, p, h => by
    have h' : some (PV.tup [.int n, x]) = some p := by simpa [enmItems] using h
    cases h'
    exact ⟨x, rfl, rfl⟩
  | x :: xs, n, i + 1, p, h => by
    obtain ⟨q, e1, e2⟩ := enm_get xs (n + 1) i p (by simpa [enmItems] using h)
    refine ⟨q, by simpa using e1, ?_⟩
    rw [e2, show n + 1 + i = n + (i + 1) by omega]
theorem enm_len : ∀ (xs : List PV) (n : Nat), (enmItems n xs).length = xs.length
  | [], _ => rfl
  | _ :: xs, n => by simp [enmItems, enm_len xs]
theorem ri_enm {g : Gx} {F : Hp} {a : Addr} {xs : List PV} {vs : List V} {e : En} {H : Hp} (h : F a = some (.lst vs)) (r : Reps g F xs vs) : RI g (enmItems 0 xs) e (Ite g.K a) F H := by
  intro F1 H1 s1 s2
  have hq : SqL g.K H1 a vs := .inl (.inl (s2 _ _ (s1 _ _ h)))
  refine ⟨fun i p hp => ?_, vs, hq, by rw [r.length, enm_len]; exact Nat.le_refl _⟩
  obtain ⟨q, e0, rfl⟩ := enm_get xs 0 i p hp
  obtain ⟨v, e1, e2⟩ := r.get e0
  refine ⟨⟨vs, v, hq, e1⟩, fun x H' y => ?_⟩
  obtain ⟨T, w, rfl, nT, rfl, y⟩ := y
  have := y vs hq
  rw [e1] at this; cases this
  refine ⟨upd F1 T (.tup [.int (i : Nat), v]), New.fix s2 nT, T, _, rfl, .inl (.inl upd_same), ?_⟩
  have sm : Same F1 (upd F1 T (.tup [.int (i : Nat), v])) := same_upd (Same.free s2 nT)
  rw [Nat.zero_add]
  exact ⟨_, _, rfl, rfl, _, _, rfl, (e2.mono s1).mono sm, rfl⟩
theorem zip_get : ∀ (xs ys : List PV) (i : Nat) (p : PV), (zipItems xs ys)[i]? = some p → ∃ q r, xs[i]? = some q ∧ ys[i]? = some r ∧ p = .tup [q, r]
  | [], _, _, _, h => by simp [zipItems] at h
  | _ :: _, [], _, _, h => by simp [zipItems] at h
  | x :: xs, y :: ys, 0, p, h => by
    have h' : some (PV.tup [x, y]) = some p := by simpa [zipItems] using h
    cases h'
    exact ⟨x, y, rfl, rfl, rfl⟩
  | x :: xs, y :: ys, i + 1, p, h => by
    obtain ⟨q, r, e1, e2, e3⟩ := zip_get xs ys i p (by simpa [zipItems] using h)
    exact ⟨q, r, by simpa using e1, by simpa using e2, e3⟩
theorem zip_len : ∀ (xs ys : List PV), (zipItems xs ys).length = min xs.length ys.length
  | [], _ => by simp [zipItems]
  | _ :: _, [] => by simp [zipItems]
  | _ :: xs, _ :: ys => by simp only [zipItems, List.length_cons, zip_len xs ys]; omega
theorem ri_zipL {g : Gx} {F : Hp} {a b : Addr} {xs ys : List PV} {vs ws : List V} {e : En} {H : Hp} (h : F a = some (.lst vs)) (r : Reps g F xs vs) (h' : F b = some (.lst ws)) (r' : Reps g F ys ws) : RI g (zipItems xs ys) e (Itz g.K a b) F H := by
  intro F1 H1 s1 s2
  have hq : SqL g.K H1 a vs := .inl (.inl (s2 _ _ (s1 _ _ h)))
  have hq' : SqL g.K H1 b ws := .inl (.inl (s2 _ _ (s1 _ _ h')))
  refine ⟨fun i p hp => ?_, vs, ws, hq, hq', by rw [r.length, r'.length, zip_len]; omega⟩
  obtain ⟨q, q', e0, e0', rfl⟩ := zip_get xs ys i p hp
  obtain ⟨v, e1, e2⟩ := r.get e0
  obtain ⟨v', e1', e2'⟩ := r'.get e0'
  refine ⟨⟨vs, ws, v, v', hq, hq', e1, e1'⟩, fun x H' y => ?_⟩
  obtain ⟨T, w, w', rfl, nT, rfl, y1, y2⟩ := y
  have z1 := y1 vs hq
  have z2 := y2 ws hq'
  rw [e1] at z1; cases z1
  rw [e1'] at z2; cases z2
  have sm : Same F1 (upd F1 T (.tup [v, v'])) := same_upd (Same.free s2 nT)
  exact ⟨upd F1 T (.tup [v, v']), New.fix s2 nT, T, _, rfl, .inl (.inl upd_same), _, _, rfl, (e2.mono s1).mono sm, _, _, rfl, (e2'.mono s1).mono sm, rfl⟩
theorem ri_zipT {g : Gx} {F : Hp} {a b : Addr} {xs ys : List PV} {vs ws : List V} {e : En} {H : Hp} (h : SqT g.K F a vs) (r : Reps g F xs vs) (h' : SqT g.K F b ws) (r' : Reps g F ys ws) : RI g (zipItems xs ys) e (RZ.ItzT g.K a b) F H := by
  intro F1 H1 s1 s2
  have hq : SqT g.K H1 a vs := Same.tseq s2 (Same.tseq s1 h)
  have hq' : SqT g.K H1 b ws := Same.tseq s2 (Same.tseq s1 h')
  refine ⟨fun i p hp => ?_, vs, ws, hq, hq', by rw [r.length, r'.length, zip_len]; omega⟩
  obtain ⟨q, q', e0, e0', rfl⟩ := zip_get xs ys i p hp
  obtain ⟨v, e1, e2⟩ := r.get e0
  obtain ⟨v', e1', e2'⟩ := r'.get e0'
  refine ⟨⟨vs, ws, v, v', hq, hq', e1, e1'⟩, fun x H' y => ?_⟩
  obtain ⟨T, w, w', rfl, nT, rfl, y1, y2⟩ := y
  have z1 := y1 vs hq
  have z2 := y2 ws hq'
  rw [e1] at z1; cases z1
  rw [e1'] at z2; cases z2
  have sm : Same F1 (upd F1 T (.tup [v, v'])) := same_upd (Same.free s2 nT)
  exact ⟨upd F1 T (.tup [v, v']), New.fix s2 nT, T, _, rfl, .inl (.inl upd_same), _, _, rfl, (e2.mono s1).mono sm, _, _, rfl, (e2'.mono s1).mono sm, rfl⟩

theorem _root_.L2.PI.imp {X : Cx} {tg e : Expr} {t t' : TI} (h : PI X tg e t) (k : ∀ σ H Q, t' σ H Q → t σ H Q) : PI X tg e t' := ⟨fun pins s σ H Q I q => h.run pins s σ H Q I (k σ H Q q)⟩
/-- a list, a tuple or a text is walked -/
def iAny (K : PySem.W.Frag) (t : TE) : TI := fun σ H R => t σ H fun x H1 => (∃ a, x = .ref a ∧ (∃ xs, SqL K H1 a xs) ∧ R (Itl K a) H1) ∨ (∃ a, x = .ref a ∧ (∃ xs, SqT K H1 a xs) ∧ R (Itt K a) H1) ∨ ∃ z, x = .str z ∧ R (Its z) H1
theorem pi_any {tg l : Expr} {t : TE} (hl : PE X l t) : PI X tg l (iAny X.K t) := by
  constructor
  intro pins s σ H R I h
  refine thn (hl.run pins s σ H _ I h) ?_
  rintro v s1 ⟨x, H1, I1, r1, q⟩
  rcases q with ⟨a, rfl, ⟨xs, hq⟩, q⟩ | ⟨a, rfl, ⟨xs, hq⟩, q⟩ | ⟨z, rfl, q⟩
  · cases r1
    obtain ⟨its, rv, pl, _⟩ := I1.list hq
    exact wpAny_pyIter_list pl.isList (pi_one (tk := s1.toks) I1 _ (turn_list a _) ⟨_, Heap.get?_push_size _ rfl, rfl, rfl⟩ q)
  · cases r1
    obtain ⟨its, rv, pl, _⟩ := I1.tuple hq
    exact wpAny_pyIter_tuple (show s1.heap.IsTuple a its.toArray from pl) (pi_one (tk := s1.toks) I1 _ (turn_tuple a _) ⟨_, Heap.get?_push_size _ rfl, rfl, rfl⟩ q)
  · obtain ⟨t, rfl⟩ := r1
    by_cases ha : z.cps.all (· < 128) = true
    · exact wpAny_pyIter_ascii ha (pi_one (tk := s1.toks) I1 _ (turn_str _ z t _ (.inl rfl)) ⟨_, Heap.get?_push_size _ rfl, rfl, rfl⟩ q)
    · exact wpAny_pyIter_wide (by simpa using ha) (pi_one (tk := s1.toks) I1 _ (turn_str _ z t _ (.inr rfl)) ⟨_, Heap.get?_push_size _ rfl, rfl, rfl⟩ q)
theorem ci_any {it : IE} {tg e : Expr} (h : CE X C W it e) : PI X tg e (tI (gx X) W (evIt C it)) := by
  refine (pi_any h.1).imp fun σ H Q q => ?_
  obtain ⟨G, env, F, S, r⟩ := q
  refine ⟨G, env, F, S, Rd.bind r fun r1 e1 v F1 H1 sm1 S1 h1 q1 => ?_⟩
  obtain ⟨F2, S2, r2, sm2⟩ := S1.fix h1
  unfold itO at q1
  split at q1
  · rename_i xs hx
    have q2 := q1.at sm2
    obtain ⟨p, fl⟩ := r1
    unfold itemsP at hx
    split at hx
    · cases hx
      obtain ⟨a, vs, rfl, h3, h4⟩ := (show Rep (gx X) F2 (.lst xs) v by simp_all)
      exact .inl ⟨a, rfl, ⟨vs, .inl (.inl (S2.sub _ _ h3))⟩, q2 _ F2 H1 (.refl _) S2 (ri_list h3 h4)⟩
    · cases hx
      obtain ⟨a, vs, rfl, h3, h4⟩ := (show Rep (gx X) F2 (.tup xs) v by simp_all)
      exact .inr (.inl ⟨a, rfl, ⟨vs, Same.tseq S2.sub h3⟩, q2 _ F2 H1 (.refl _) S2 (ri_tup h3 h4)⟩)
    · rename_i z hz
      cases hx
      have h3 : Rep (gx X) F2 (.str z) v := by simp_all
      cases h3
      exact .inr (.inr ⟨z, rfl, q2 _ F2 H1 (.refl _) S2 ri_str⟩)
    · cases hx
  · exact q1.elim
theorem fzO_it {G : Ent} {σ : L2.St} {F : Hp} {o : Option (List PV)} {e : En} {Q : It → Hp → Prop} (h : Rd (gx X) W G σ F (RI (gx X)) ((fzO (o.map .lst) e).bind fun r e1 => itO (itemsP r.1) e1) Q) : ∃ xs, o = some xs ∧ Rd (gx X) W G σ F (RI (gx X)) (.ok xs e) Q := by
  cases o with
  | none => exact h.elim
  | some xs => exact ⟨xs, rfl, h⟩
theorem rngP_one {p : PV} {xs : List PV} (h : rngP [p] = some xs) : ∃ j : Int, p = .int j ∧ -(2 ^ 62) ≤ j ∧ j < 2 ^ 62 ∧ xs = rngItems 0 j := by
  unfold rngP at h
  split at h
  · rename_i j hj
    cases hj
    split at h
    · rename_i hz; cases h; exact ⟨j, rfl, hz.1, hz.2, rfl⟩
    · cases h
  · rename_i hj; cases hj
  · cases h
theorem rngP_two {p q : PV} {xs : List PV} (h : rngP [p, q] = some xs) : ∃ i j : Int, p = .int i ∧ q = .int j ∧ (-(2 ^ 62) ≤ i ∧ i < 2 ^ 62 ∧ -(2 ^ 62) ≤ j ∧ j < 2 ^ 62) ∧ xs = rngItems i j := by
  unfold rngP at h
  split at h
  · rename_i hj; cases hj
  · rename_i i j hj
    cases hj
    split at h
    · rename_i hz; cases h; exact ⟨i, j, rfl, rfl, hz, rfl⟩
    · cases h
  · cases h
theorem rng_ev {as : IE} (env : En) : evIt C (.rng as) env = (evOs C as env).bind fun os e1 => (fzO (((rsOs e1 os).bind rngP).map .lst) e1).bind fun r e1 => itO (itemsP r.1) e1 := by
  unfold evIt
  rw [← Out.assoc]
  congr 1
  show (evOs C as env).bind _ = (evOs C as env).bind _
  congr 1
  funext os e1
  cases q : rsOs e1 os <;> rfl
theorem ci_rng1 (K : Cok X C W N sc) {as : IE} {tg e : Expr} {p pos : Pos} {fa : En → Out Opd} (hg : glB sc "range" = true) (hs : isStar e = false) (h : PE X e (tO (gx X) W fa)) (has : ∀ env, evOs C as env = (fa env).bind fun x e1 => .ok [x] e1) :
    PI X tg (.Call (.Name "range" p) [e] [] pos) (tI (gx X) W (evIt C (.rng as))) := by
  obtain ⟨h1, _⟩ := K.gl hg
  refine (pi_range1 h1 K.rng (pa_cons h pa_nil (star_cons _ _ hs)) (star_cons _ _ hs)).imp fun σ H Q q => ?_
  obtain ⟨G, env, F, S, r⟩ := q
  rw [rng_ev, has, Out.assoc] at r
  refine ⟨G, env, F, S, Rd.bind r fun x e1 v F1 H1 sm1 S1 h1 q1 => ?_⟩
  obtain ⟨xs, e2, q2⟩ := fzO_it q1
  obtain ⟨ps, e3, e4⟩ := Option.bind_eq_some_iff.mp e2
  obtain ⟨p0, e5, e6⟩ := Option.bind_eq_some_iff.mp (show (rsO e1 x).bind (fun p => (some []).map (p :: ·)) = some ps from e3)
  cases e6
  obtain ⟨j, rfl, h2, h3, rfl⟩ := rngP_one e4
  have hx := S1.rs e5 h1
  cases hx
  refine ⟨j, rfl, h2, h3, ?_⟩
  have := q2 (Itr 0 (j - 0).toNat) F1 H1 (.refl _) S1 ri_rng
  rwa [Int.sub_zero] at this
theorem ci_rng2 (K : Cok X C W N sc) {as : IE} {tg e f : Expr} {p pos : Pos} {fa fb : En → Out Opd} (hg : glB sc "range" = true) (hs : isStar e = false) (hs' : isStar f = false) (h : PE X e (tO (gx X) W fa)) (h' : PE X f (tO (gx X) W fb))
    (has : ∀ env, evOs C as env = (fa env).bind fun x e1 => (fb e1).bind fun y e2 => .ok [x, y] e2) :
    PI X tg (.Call (.Name "range" p) [e, f] [] pos) (tI (gx X) W (evIt C (.rng as))) := by
  obtain ⟨h1, _⟩ := K.gl hg
  refine (pi_range2 h1 K.rng (pa_cons h (pa_cons h' pa_nil (star_cons _ _ hs')) (star_cons _ _ hs)) (by rw [star_cons _ _ hs, star_cons _ _ hs']; rfl) (star_cons _ _ hs')).imp fun σ H Q q => ?_
  obtain ⟨G, env, F, S, r⟩ := q
  rw [rng_ev, has, Out.assoc] at r
  refine ⟨G, env, F, S, Rd.bind r fun x e1 v F1 H1 sm1 S1 h1 q1 => ?_⟩
  rw [Out.assoc] at q1
  refine ⟨G, e1, F1, S1, Rd.bind q1 fun y e2 w F2 H2 sm2 S2 h2 q2 => ?_⟩
  obtain ⟨xs, e3, q3⟩ := fzO_it q2
  obtain ⟨ps, e4, e5⟩ := Option.bind_eq_some_iff.mp e3
  obtain ⟨p0, e6, e7⟩ := Option.bind_eq_some_iff.mp (show (rsO e2 x).bind (fun p => (rsOs e2 [y]).map (p :: ·)) = some ps from e4)
  obtain ⟨qs, e8, e9⟩ := Option.map_eq_some_iff.mp e7
  subst e9
  obtain ⟨p1, e10, e11⟩ := Option.bind_eq_some_iff.mp (show (rsO e2 y).bind (fun p => (some []).map (p :: ·)) = some qs from e8)
  cases e11
  obtain ⟨i, j, rfl, rfl, h3, rfl⟩ := rngP_two e5
  have hx := S2.rs e6 (h1.mono sm2)
  cases hx
  have hy := S2.rs e10 h2
  cases hy
  exact ⟨i, j, rfl, h3, q3 _ F2 H2 (.refl _) S2 ri_rng⟩
theorem enmP_ok {p q : PV} (h : enmP p = some q) : ∃ xs, p = .lst xs ∧ q = .lst (enmItems 0 xs) := by
  cases p with
  | lst xs => cases h; exact ⟨xs, rfl, rfl⟩
  | _ => cases h
theorem ci_enm (K : Cok X C W N sc) {a : IE} {e : Expr} {elts : List Expr} {kk : Nat} {tpos p pos : Pos} (hg : glB sc "enumerate" = true) (hs : isStar e = false) (h : CE X C W a e) :
    PI X (.Tuple elts kk tpos) (.Call (.Name "enumerate" p) [e] [] pos) (tI (gx X) W (evIt C (.enm a))) := by
  obtain ⟨h1, _⟩ := K.gl hg
  refine (pi_enum h1 K.enm (pa_cons h.1 pa_nil (star_cons _ _ hs)) (star_cons _ _ hs)).imp fun σ H Q q => ?_
  obtain ⟨G, env, F, S, r⟩ := q
  have e0 : evIt C (.enm a) env = ((ev C a).1 env).bind fun r e1 => (fzO (enmP r.1) e1).bind fun r e1 => itO (itemsP r.1) e1 := by
    unfold evIt; rw [← Out.assoc]; rfl
  rw [e0] at r
  refine ⟨G, env, F, S, Rd.bind r fun r1 e1 v F1 H1 sm1 S1 h1 q1 => ?_⟩
  obtain ⟨F2, S2, r2, sm2⟩ := S1.fix h1
  unfold fzO at q1
  split at q1
  · rename_i p hp
    obtain ⟨xs, e2, rfl⟩ := enmP_ok hp
    rw [e2] at r2
    obtain ⟨b, vs, rfl, h3, h4⟩ := r2
    exact ⟨b, vs, rfl, .inl (.inl (S2.sub _ _ h3)), q1 _ F2 H1 sm2 S2 (ri_enm h3 h4)⟩
  · exact q1.elim
theorem ci_zip (K : Cok X C W N sc) {a b : IE} {e f : Expr} {elts : List Expr} {kk : Nat} {tpos p pos : Pos} (hg : glB sc "zip" = true) (hs : isStar e = false) (hs' : isStar f = false) (h : CE X C W a e) (h' : CE X C W b f) :
    PI X (.Tuple elts kk tpos) (.Call (.Name "zip" p) [e, f] [] pos) (tI (gx X) W (evIt C (.zip a b))) := by
  obtain ⟨h1, _⟩ := K.gl hg
  refine (RZ.pi_zipA h1 K.zip (pa_cons h.1 (pa_cons h'.1 pa_nil (star_cons _ _ hs')) (star_cons _ _ hs)) (star_cons _ _ hs) (any_star _ _ [f] (by simp [hs']))).imp fun σ H Q q => ?_
  obtain ⟨G, env, F, S, r⟩ := q
  have e0 : evIt C (.zip a b) env = ((ev C a).1 env).bind fun r e1 => ((ev C b).1 e1).bind fun q e2 => (fzO ((zipP r.1 q.1).map .lst) e2).bind fun r e1 => itO (itemsP r.1) e1 := by
    unfold evIt
    show Out.bind (Out.bind _ _) _ = _
    rw [Out.assoc]
    congr 1
    funext r e1
    rw [Out.assoc]
  rw [e0] at r
  refine ⟨G, env, F, S, Rd.bind r fun r1 e1 v F1 H1 sm1 S1 h1 q1 => ?_⟩
  obtain ⟨F2, S2, r2, sm2⟩ := S1.fix h1
  refine ⟨G, e1, F2, S2, Rd.bind (q1.at sm2) fun q1 e2 w F3 H3 sm3 S3 h3 q3 => ?_⟩
  obtain ⟨F4, S4, r4, sm4⟩ := S3.fix h3
  obtain ⟨xs, e5, q5⟩ := fzO_it (q3.at sm4)
  have r2' := (r2.mono sm3).mono sm4
  unfold zipP at e5
  split at e5
  · rename_i e6 e7
    cases e5
    rw [e6] at r2'
    rw [e7] at r4
    obtain ⟨c, vs, rfl, k1, k2⟩ := r2'
    obtain ⟨d, ws, rfl, k3, k4⟩ := r4
    exact ⟨c, d, vs, ws, rfl, .inl ⟨.inl (.inl (S4.sub _ _ k1)), .inl (.inl (S4.sub _ _ k3)), q5 _ F4 H3 (.refl _) S4 (ri_zipL k1 k2 k3 k4)⟩⟩
  · rename_i e6 e7
    cases e5
    rw [e6] at r2'
    rw [e7] at r4
    obtain ⟨c, vs, rfl, k1, k2⟩ := r2'
    obtain ⟨d, ws, rfl, k3, k4⟩ := r4
    exact ⟨c, d, vs, ws, rfl, .inr ⟨Same.tseq S4.sub k1, Same.tseq S4.sub k3, q5 _ F4 H3 (.refl _) S4 (ri_zipT k1 k2 k3 k4)⟩⟩
  · cases e5
end
end Bd

namespace Bd
open PySem L2
section
variable {g : Gx} {G : Ent} {env : En} {σ : L2.St} {F H F' H' : Hp}
/-- a slot takes a fixed value -/
theorem Sx.setFz (S : Sx g G env σ F H) {i : Nat} {p : PV} {v : V} (hr : Rep g F p v) : Sx g G (env.set i (some (p, .fz))) (σ.set i (some v)) F H := by
  have ge : ∀ (j : Nat) q, (env.set i (some (p, .fz)))[j]? = some (some q) → (j = i ∧ q = (p, .fz) ∧ i < env.length) ∨ (j ≠ i ∧ env[j]? = some (some q)) := fun j q h => by
    by_cases hj : i = j
    · subst hj
      by_cases hl : i < env.length
      · rw [List.getElem?_set_self hl] at h
        cases h; exact .inl ⟨rfl, rfl, hl⟩
      · rw [List.getElem?_eq_none (by simpa using hl)] at h; cases h
    · rw [List.getElem?_set_ne hj] at h
      exact .inr ⟨fun z => hj z.symm, h⟩
  refine ⟨S.sub, S.f0, S.h0, S.nf, S.th, by simpa using S.len, fun j pv h => ?_, fun j pv fl h hf => ?_, fun j k q r a h1 f1 h2 f2 s1 s2 => ?_, fun j pv h => ?_⟩
  · rcases ge j _ h with ⟨rfl, hq, hl⟩ | ⟨hj, hq⟩
    · cases hq
      exact ⟨v, List.getElem?_set_self (by rw [← S.len]; exact hl), hr⟩
    · obtain ⟨w, e1, e2⟩ := S.fz j pv hq
      exact ⟨w, by rw [List.getElem?_set_ne (Ne.symm hj)]; exact e1, e2⟩
  · rcases ge j _ h with ⟨rfl, hq, hl⟩ | ⟨hj, hq⟩
    · cases hq; exact absurd rfl hf
    · obtain ⟨a, e1, e2⟩ := S.own j pv fl hq hf
      exact ⟨a, by rw [List.getElem?_set_ne (Ne.symm hj)]; exact e1, e2⟩
  · rcases ge j _ h1 with ⟨rfl, hq, hl⟩ | ⟨hj, hq⟩
    · subst hq; exact absurd rfl f1
    · rcases ge k _ h2 with ⟨rfl, hr', hl⟩ | ⟨hk, hr'⟩
      · subst hr'; exact absurd rfl f2
      · rw [List.getElem?_set_ne (Ne.symm hj)] at s1
        rw [List.getElem?_set_ne (Ne.symm hk)] at s2
        exact S.inj j k q r a hq f1 hr' f2 s1 s2
  · rcases ge j _ h with ⟨rfl, hq, hl⟩ | ⟨hj, hq⟩
    · cases hq
    · rw [List.getElem?_set_ne (Ne.symm hj)]; exact S.bo j pv hq
/-- an object of nobody's, made here, is changed -/
theorem Sx.wr (S : Sx g G env σ F H) {D : Addr} {o : HO} (hG : G.H D = none) (hF : F D = none) (ap : Apart env σ D) : Sx g G env σ F (upd H D o) := by
  refine ⟨fun b x q => ?_, S.f0, fun a x h1 h2 => ?_, S.nf, fun a x h1 => ?_, S.len, S.fz, fun i pv fl h hf => ?_, S.inj, S.bo⟩
  · rw [upd_ne (ne_of_none q hF)]; exact S.sub b x q
  · rw [upd_ne (ne_of_none h1 hG)]; exact S.h0 a x h1 h2
  · rw [upd_ne (ne_of_none h1 hG)]; exact S.th a x h1
  · obtain ⟨a, e1, e2, e3, e4⟩ := S.own i pv fl h hf
    have hne : a ≠ D := by rintro rfl; exact ap i _ h hf e1
    exact ⟨a, e1, e2, e3.mono (.refl _) fun o q => by rw [upd_ne hne]; exact q, e4⟩
/-- the entry of a part: only what a slot owns may be changed -/
def nar (env : En) (σ : L2.St) (F H : Hp) : Ent := ⟨F, H, fun a => ∃ (i : Nat) (p : PV × Fl), env[i]? = some (some p) ∧ p.2 ≠ .fz ∧ σ[i]? = some (some (.ref a)), fun a => ∃ (i : Nat) (p : PV × Fl), env[i]? = some (some p) ∧ p.2 = .own ∧ σ[i]? = some (some (.ref a)), σ, fun i => ∃ p, env[i]? = some (some (p, .bor))⟩
theorem Sx.narrow (S : Sx g G env σ F H) : Sx g (nar env σ F H) env σ F H := by
  refine ⟨S.sub, .refl _, fun a o h _ => h, fun a o _ h _ => h, fun a o h => ⟨o, h⟩, S.len, S.fz, fun i pv fl h hf => ?_, S.inj, fun i pv h => ⟨⟨pv, h⟩, rfl⟩⟩
  obtain ⟨a, e1, e2, e3, e4, e5⟩ := S.own i pv fl h hf
  exact ⟨a, e1, e2, e3, .inl ⟨i, _, h, hf, e1⟩, fun z => .inl ⟨i, _, h, z, e1⟩⟩
theorem Sx.widen {env' : En} {σ' : L2.St} (S : Sx g G env σ F H) (S' : Sx g (nar env σ F H) env' σ' F' H') : Sx g G env' σ' F' H' := by
  have own : ∀ a, (nar env σ F H).M a → G.M a ∨ G.H a = none := fun a ⟨i, p, h1, h2, h3⟩ => by
    obtain ⟨b, e1, _, _, e4, _⟩ := S.own i p.1 p.2 h1 h2
    rw [h3] at e1; cases e1
    exact e4
  have ownZ : ∀ a, (nar env σ F H).Z a → G.Z a ∨ G.H a = none := fun a ⟨i, p, h1, h2, h3⟩ => by
    obtain ⟨b, e1, _, _, _, e5⟩ := S.own i p.1 p.2 h1 (by rw [h2]; simp)
    rw [h3] at e1; cases e1
    exact e5 h2
  have gone : ∀ a, H a = none → G.H a = none := fun a h => by
    cases w : G.H a with
    | none => rfl
    | some o => obtain ⟨o', e⟩ := S.th a o w; rw [h] at e; cases e
  refine ⟨S'.sub, S.f0.trans S'.f0, fun a o h1 h2 => S'.h0 a o (S.h0 a o h1 h2) fun z => ?_, fun a o h1 h2 h3 => ?_, fun a o h1 => ?_, S'.len, S'.fz, fun i pv fl h hf => ?_, S'.inj, fun i pv h => ?_⟩
  · rcases own a z with z | z
    · exact h2 z
    · rw [h1] at z; cases z
  · obtain ⟨o', e⟩ := S.th a o h1
    refine S'.nf a o' e (S.nf a o h1 h2 h3) fun z => ?_
    rcases ownZ a z with z | z
    · exact h3 z
    · rw [h1] at z; cases z
  · obtain ⟨o', e⟩ := S.th a o h1
    exact S'.th a o' e
  · obtain ⟨a, e1, e2, e3, e4, e5⟩ := S'.own i pv fl h hf
    refine ⟨a, e1, e2, e3, ?_, fun z => ?_⟩
    · rcases e4 with z | z
      · exact own a z
      · exact .inr (gone a z)
    · rcases e5 z with z | z
      · exact ownZ a z
      · exact .inr (gone a z)
  · obtain ⟨⟨q, hq⟩, h2⟩ := S'.bo i pv h
    obtain ⟨h3, h4⟩ := S.bo i q hq
    exact ⟨h3, h2.trans h4⟩
/-- what nobody owns is as it was behind a part -/
theorem Sx.kept {env' : En} {σ' : L2.St} (S' : Sx g (nar env σ F H) env' σ' F' H') {D : Addr} {o : HO} (h : H D = some o) (ap : Apart env σ D) : H' D = some o ∧ (F D = none → F' D = none) ∧ Apart env' σ' D := by
  have nM : ¬ (nar env σ F H).M D := fun ⟨i, p, h1, h2, h3⟩ => ap i p h1 h2 h3
  refine ⟨S'.h0 D o h nM, fun hf => S'.nf D o h hf fun ⟨i, p, h1, h2, h3⟩ => ap i p h1 (by rw [h2]; simp) h3, fun i p h1 h2 h3 => ?_⟩
  obtain ⟨a, e1, _, _, e4, _⟩ := S'.own i p.1 p.2 h1 h2
  rw [h3] at e1; cases e1
  rcases e4 with z | z
  · exact nM z
  · rw [show (nar env σ F H).H = H from rfl, h] at z; cases z
end

/-! ### a list is unpacked -/
section
variable {prog : Program} {w : World} {A : Around} {E : Value → Shared → Prop} {s : Shared}
theorem draw_list {it t : Addr} {items : Array Value} (hne : t ≠ it) : ∀ (n i : Nat) (s : Shared) (Q : List Value → Shared → Prop), s.heap.IsListIter it t i → s.heap.IsList t items → i + n ≤ items.size →
    (∀ h' : Heap, h'.IsListIter it t (i + n) → Heap.SameBut it s.heap h' → Q ((items.toList.drop i).take n) { s with heap := h' }) → wpAny (model prog w) A (draw (.ref it) n) Q E s
  | 0, i, s, Q, hit, _, _, hQ => by
    show wpAny _ _ (pure []) Q E s
    have h0 := hQ s.heap hit (Heap.SameBut.refl ..)
    exact wpAny_pure (by simpa using h0)
  | n + 1, i, s, Q, hit, ht, hle, hQ => by
    have hlt : i < items.size := by omega
    show wpAny _ _ (pyNext (.ref it) >>= _) Q E s
    refine wpAny_bind (wpAny_pyNext_list_item hit ht (x := items[i]) (by simp [hlt]) fun h1 hit1 hs1 => ?_)
    refine wpAny_bind (wpAny_holding (draw_list hne n (i + 1) _ _ hit1 (ht.extBut hs1.extBut hne) (by omega) fun h2 hit2 hs2 => wpAny_pure ?_))
    have hd : items.toList.drop i = items[i] :: items.toList.drop (i + 1) := by simp [List.drop_eq_getElem_cons, hlt]
    have z := hQ h2 (by rw [show i + (n + 1) = i + 1 + n by omega]; exact hit2) (hs1.trans hs2)
    rw [hd, List.take_succ_cons] at z
    exact z
theorem unpackItems_list {t : Addr} {items : Array Value} {Q : List Value → Shared → Prop} (hh : A.handled = none) (ht : s.heap.IsList t items)
    (hQ : ∀ h' : Heap, Heap.ExtBut s.heap.objs.size s.heap h' → Q items.toList { s with heap := h' }) : wpAny (model prog w) A (unpackItems (.ref t) items.size none) Q E s := by
  have hlt : t ≠ s.heap.objs.size := by obtain ⟨o, ho, _⟩ := ht; exact Nat.ne_of_lt (Heap.lt_size ho)
  unfold unpackItems
  refine wpAny_bind ?_
  unfold notIterableAtAll
  refine wpAny_bind (wpAny_specialOf ht.typeIs F.slot_list_iter.lookup ?_)
  refine wpAny_pure ?_
  simp only [Bool.false_eq_true, if_false]
  refine wpAny_bind (wpAny_holding (wpAny_pyIter_list ht ?_))
  refine wpAny_bind (wpAny_holding (draw_list hlt items.size 0 _ _ ⟨_, Heap.get?_push_size _ rfl, rfl, rfl⟩ (ht.push _) (by omega) fun h1 hit1 hs1 => ?_))
  have hall : List.take items.size (List.drop 0 items.toList) = items.toList := by
    rw [List.drop_zero]; exact List.take_of_length_le (by simp)
  rw [hall]
  rw [if_neg (by simp)]
  have ht1 : h1.IsList t items := (ht.push _).extBut hs1.extBut hlt
  refine wpAny_bind (wpAny_holding (wpAny_pyNext_list_end hh hit1 ht1 (by simp) fun h2 he2 => ?_))
  simp only [Option.isSome_none, Bool.false_eq_true, if_false]
  exact wpAny_pure (hQ h2 fun b o hb e => he2 b o hb (hs1.extBut b o hb (Heap.get?_push_of_some _ e)))
theorem assign_Tuple_list {env : Env} {elts : List Expr} {k : Nat} {pos : Pos} {t : Addr} {items : Array Value} {Q : Unit → Shared → Prop} (hh : A.handled = none) (ht : s.heap.IsList t items)
    (hn : (assignEach elts env).length = items.size) (hstar : (assignEach elts env).findIdx? (·.1) = none)
    (h : ∀ h' : Heap, Heap.ExtBut s.heap.objs.size s.heap h' → wpAny (model prog w) A (assignInOrder ((assignEach elts env).map (·.2)) items.toList) Q E { s with heap := h' }) :
    wpAny (model prog w) A (assign (.Tuple elts k pos) env (.ref t)) Q E s := by
  rw [PyProof.Rows.assign_Tuple]
  refine wpAny_bind (wpAny_standAt ?_)
  unfold unpack
  rw [hn, hstar]
  exact wpAny_bind (wpAny_holding (unpackItems_list hh ht h))
end
def gLst (K : PySem.W.Frag) (n : Nat) (t : TGs) : TG := fun v σ H Q => ∃ a xs, v = .ref a ∧ SqL K H a xs ∧ xs.length = n ∧ t xs σ H Q
theorem pg_lst {X : Cx} {pos : Pos} {es : List Expr} {k : Nat} {t : TGs} {n : Nat} (hc : X.calm = true) (h : PGs X es t)
    (hn : (assignEach es X.env).length = n) (hst : (assignEach es X.env).findIdx? (·.1) = none) : PG X (.Tuple es k pos) (gLst X.K n t) := by
  refine ⟨fun pins s σ H v u Q I r hw => ?_⟩
  obtain ⟨a, xs, e1, hq, hl, hw⟩ := hw
  subst e1
  cases r
  obtain ⟨its, rv, ht, hz⟩ := I.list hq
  refine assign_Tuple_list (I.ok.hd hc) ht.isList (by simp [hn, ← hl, rv.length]) hst fun h' hx => ?_
  have I1 : Inv X pins σ H { s with heap := h' } := I.kept (t' := s.toks) fun b o e => hx b o (Nat.ne_of_lt (Heap.lt_size e)) e
  exact h.run pins _ σ H xs _ Q I1 (by simpa using rv) hw
theorem _root_.L2.PG.or {X : Cx} {e : Expr} {t t' : TG} (h : PG X e t) (h' : PG X e t') : PG X e (fun v σ H Q => t v σ H Q ∨ t' v σ H Q) := ⟨fun pins s σ H v u Q I r q => q.elim (h.run pins s σ H v u Q I r) (h'.run pins s σ H v u Q I r)⟩

/-! ### targets -/
abbrev RG (g : Gx) (ig : IG) : Ent → L2.St → Hp → Hp → En → (L2.St → Hp → Prop) → Prop := fun G σ F H e Q => ∀ σ', Sx g G e σ' F H → σ'.length = σ.length → (∀ j, j ∉ slotsG ig → σ'[j]? = σ[j]?) → Q σ' H
def tGt (g : Gx) (ig : IG) : TG := fun v σ H Q => ∃ G env F p e, Sx g G env σ F H ∧ Rep g F p v ∧ setG ig p env = some e ∧ RG g ig G σ F H e Q
theorem _root_.L2.PG.imp {X : Cx} {e : Expr} {t t' : TG} (h : PG X e t) (k : ∀ v σ H Q, t' v σ H Q → t v σ H Q) : PG X e t' := ⟨fun pins s σ H v u Q I r q => h.run pins s σ H v u Q I r (k v σ H Q q)⟩
def gNames : List Nat → TGs
  | [] => gNil
  | i :: is => gCons (gName i) (gNames is)
section
variable {X : Cx} {C : Cal} {W : WX} {N : List Str} {sc : Scope} {fnb : Str → Bool}
theorem locB_ok (K : Cok X C W N sc) (hf : ∀ x, fnb x = true → X.fn x = true) {x : Str} (h : locB sc fnb x = true) : Loc X.env.scope x ∧ (X.fn x = true ∨ X.env.scope.names.lookup x = some .local) := by
  unfold locB at h
  rw [K.hsc]
  split at h
  · rename_i e; exact ⟨.inl e, .inr e⟩
  · rename_i e; exact ⟨.inr e, .inl (hf x h)⟩
  · cases h
theorem pgs_names (K : Cok X C W N sc) (hf : ∀ x, fnb x = true → X.fn x = true) : ∀ {is : List Nat} {es : List Expr}, chkNames N sc fnb is es = true → PGs X es (gNames is) ∧ (assignEach es X.env).length = is.length ∧ (assignEach es X.env).findIdx? (·.1) = none
  | [], [], _ => ⟨pgs_nil, rfl, rfl⟩
  | [], _ :: _, h => by cases h
  | i :: is, [], h => by cases h
  | i :: is, e :: es, h => by
    cases e <;> try (cases h; done)
    rename_i x pos
    obtain ⟨h12, h3⟩ := band (show (decide (N[i]? = some x) && locB sc fnb x && chkNames N sc fnb is es) = true from h)
    obtain ⟨h1, h2⟩ := band h12
    obtain ⟨k1, k2, k3⟩ := pgs_names K hf h3
    obtain ⟨l1, l2⟩ := locB_ok K hf h2
    refine ⟨pgs_cons (pg_name (by rw [K.hN]; exact K.nd) (by rw [K.hN]; exact of_decide_eq_true h1) l1 l2) k1 rfl, ?_, ?_⟩
    · show (assignEach es X.env).length + 1 = _
      rw [k2]; rfl
    · show List.findIdx? (·.1) ((false, _) :: assignEach es X.env) = none
      rw [List.findIdx?_cons]
      simp [k3]
theorem gNames_ok {g : Gx} {G : Ent} {F H : Hp} : ∀ {is : List Nat} {ps : List PV} {vs : List V} {env : En} {σ : L2.St} {Q : L2.St → Hp → Prop}, is.length = ps.length → Reps g F ps vs → Sx g G env σ F H →
    (∀ σ', Sx g G ((is.zip ps).foldl (fun e q => e.set q.1 (some (q.2, .fz))) env) σ' F H → σ'.length = σ.length → (∀ j, j ∉ is → σ'[j]? = σ[j]?) → Q σ' H) → gNames is vs σ H Q
  | [], [], _, _, _, _, _, r, S, k => by
    cases r
    exact ⟨rfl, k _ S rfl fun _ _ => rfl⟩
  | [], _ :: _, _, _, _, _, hl, _, _, _ => by cases hl
  | _ :: _, [], _, _, _, _, hl, _, _, _ => by cases hl
  | i :: is, p :: ps, _, env, σ, Q, hl, r, S, k => by
    obtain ⟨v, vr, rfl, r1, r2⟩ := r
    refine ⟨v, vr, rfl, ?_⟩
    refine gNames_ok (is := is) (ps := ps) (by simpa using hl) r2 (S.setFz r1) fun σ' S' hl' hj => ?_
    refine k σ' S' (by rw [hl']; simp) fun j hn => ?_
    have hne : i ≠ j := by rintro rfl; simp at hn
    rw [hj j (fun z => hn (List.mem_cons_of_mem _ z)), List.getElem?_set_ne hne]
theorem cg_ok (K : Cok X C W N sc) (hf : ∀ x, fnb x = true → X.fn x = true) {ig : IG} {e : Expr} (h : chkG N sc fnb ig e = true) : PG X e (tGt (gx X) ig) := by
  cases ig with
  | nm i =>
    cases e <;> try (cases h; done)
    rename_i x pos
    obtain ⟨h1, h2⟩ := band (show (decide (N[i]? = some x) && locB sc fnb x) = true from h)
    obtain ⟨l1, l2⟩ := locB_ok K hf h2
    refine (pg_name (i := i) (by rw [K.hN]; exact K.nd) (by rw [K.hN]; exact of_decide_eq_true h1) l1 l2).imp fun v σ H Q q => ?_
    obtain ⟨G, env, F, p, e, S, r, hs, k⟩ := q
    cases hs
    refine k _ (S.setFz r) (by simp) fun j hj => ?_
    have hne : i ≠ j := by rintro rfl; simp [slotsG] at hj
    exact List.getElem?_set_ne hne
  | tup is =>
    cases e <;> try (cases h; done)
    rename_i es kk pos
    obtain ⟨k1, k2, k3⟩ := pgs_names K hf (show chkNames N sc fnb is es = true from h)
    refine ((pg_tup K.calm k1 k2 k3).or (pg_lst K.calm k1 k2 k3)).imp fun v σ H Q q => ?_
    obtain ⟨G, env, F, p, e, S, r, hs, k⟩ := q
    cases p with
    | tup xs =>
      have hs' : (if is.length = xs.length then some ((is.zip xs).foldl (fun e q => e.set q.1 (some (q.2, .fz))) env) else none) = some e := hs
      split at hs'
      · rename_i hl
        cases hs'
        obtain ⟨a, vs, rfl, h1, h2⟩ := r
        exact .inl ⟨a, vs, rfl, Same.tseq S.sub h1, by rw [h2.length]; exact hl.symm, gNames_ok hl h2 S k⟩
      · cases hs'
    | lst xs =>
      have hs' : (if is.length = xs.length then some ((is.zip xs).foldl (fun e q => e.set q.1 (some (q.2, .fz))) env) else none) = some e := hs
      split at hs'
      · rename_i hl
        cases hs'
        obtain ⟨a, vs, rfl, h1, h2⟩ := r
        exact .inr ⟨a, vs, rfl, .inl (.inl (S.sub _ _ h1)), by rw [h2.length]; exact hl.symm, gNames_ok hl h2 S k⟩
      · cases hs'
    | _ => cases hs
end
end Bd

namespace Bd
open PySem L2
theorem wipe_in {σ : L2.St} {j : Nat} : ∀ {vs : List Nat}, j ∈ vs → (L2.wipe σ vs)[j]? = if j < σ.length then some none else none
  | [], h => by cases h
  | v :: vs, h => by
    show ((L2.wipe σ vs).set v none)[j]? = _
    by_cases hj : v = j
    · subst hj
      by_cases hl : v < σ.length
      · rw [if_pos hl, List.getElem?_set_self (by rw [wipe_length]; exact hl)]
      · rw [if_neg hl, List.getElem?_eq_none (by rw [List.length_set, wipe_length]; omega)]
    · rw [List.getElem?_set_ne hj]
      rcases List.mem_cons.mp h with z | z
      · exact absurd z.symm hj
      · exact wipe_in z
theorem wipeE_len (e : En) : ∀ vs : List Nat, (wipeE e vs).length = e.length
  | [] => rfl
  | v :: vs => by show ((wipeE e vs).set v none).length = _; rw [List.length_set, wipeE_len e vs]
theorem wipeE_out {e : En} {j : Nat} : ∀ {vs : List Nat}, j ∉ vs → (wipeE e vs)[j]? = e[j]?
  | [], _ => rfl
  | v :: vs, h => by
    show ((wipeE e vs).set v none)[j]? = _
    have hj : v ≠ j := fun z => h (by simp [z])
    rw [List.getElem?_set_ne hj]
    exact wipeE_out fun z => h (List.mem_cons_of_mem _ z)
theorem wipeE_in {e : En} {j : Nat} {q : PV × Fl} : ∀ {vs : List Nat}, j ∈ vs → (wipeE e vs)[j]? ≠ some (some q)
  | [], h => by cases h
  | v :: vs, h => by
    show ((wipeE e vs).set v none)[j]? ≠ _
    by_cases hj : v = j
    · subst hj
      intro z
      by_cases hl : v < (wipeE e vs).length
      · rw [List.getElem?_set_self hl] at z; cases z
      · rw [List.getElem?_eq_none (by simpa using hl)] at z; cases z
    · rw [List.getElem?_set_ne hj]
      rcases List.mem_cons.mp h with z | z
      · exact absurd z.symm hj
      · exact wipeE_in z
theorem wipeE_get {e : En} {j : Nat} {q : PV × Fl} {vs : List Nat} (h : (wipeE e vs)[j]? = some (some q)) : j ∉ vs ∧ e[j]? = some (some q) := by
  by_cases hj : j ∈ vs
  · exact absurd h (wipeE_in hj)
  · rw [wipeE_out hj] at h; exact ⟨hj, h⟩
theorem wipe_eq {σ σ' : L2.St} {vs : List Nat} (hl : σ'.length = σ.length) (h : ∀ j, j ∉ vs → σ'[j]? = σ[j]?) : wipe σ' vs = wipe σ vs := by
  apply List.ext_getElem?
  intro j
  by_cases hj : j ∈ vs
  · rw [wipe_in hj, wipe_in hj, hl]
  · rw [wipe_out hj, wipe_out hj]; exact h j hj
theorem unwipe_len (e0 : En) : ∀ (vs : List Nat) (e : En), (unwipe e0 vs e).length = e.length
  | [], _ => rfl
  | v :: vs, e => by unfold unwipe; rw [List.length_set, unwipe_len e0 vs]
theorem unwipe_get {e0 : En} {j : Nat} {q : PV × Fl} : ∀ {vs : List Nat} {e : En}, e.length = e0.length → (unwipe e0 vs e)[j]? = some (some q) → (j ∈ vs ∧ e0[j]? = some (some q)) ∨ (j ∉ vs ∧ e[j]? = some (some q))
  | [], e, _, h => .inr ⟨by simp, h⟩
  | v :: vs, e, hl, h => by
    unfold unwipe at h
    by_cases hj : v = j
    · subst hj
      have hlt : v < (unwipe e0 vs e).length := by
        have h2 := (List.getElem?_eq_some_iff.mp h).1
        rwa [List.length_set] at h2
      rw [List.getElem?_set_self hlt] at h
      refine .inl ⟨by simp, ?_⟩
      split at h
      · rename_i x hx
        rw [hx]; exact congrArg some (Option.some.inj h)
      · cases h
    · rw [List.getElem?_set_ne hj] at h
      rcases unwipe_get (vs := vs) hl h with ⟨h1, h2⟩ | ⟨h1, h2⟩
      · exact .inl ⟨List.mem_cons_of_mem _ h1, h2⟩
      · exact .inr ⟨by simp only [List.mem_cons, not_or]; exact ⟨fun z => hj z.symm, h1⟩, h2⟩
section
variable {g : Gx} {G : Ent} {env : En} {σ : L2.St} {F H F' H' : Hp}
theorem Sx.wipe (S : Sx g G env σ F H) (vs : List Nat) : Sx g G (wipeE env vs) (L2.wipe σ vs) F H := by
  refine ⟨S.sub, S.f0, S.h0, S.nf, S.th, by rw [wipeE_len, wipe_length]; exact S.len, fun j pv h => ?_, fun j pv fl h hf => ?_, fun j k q r a h1 f1 h2 f2 s1 s2 => ?_, fun j pv h => ?_⟩
  · obtain ⟨h1, h2⟩ := wipeE_get h
    rw [wipe_out h1]; exact S.fz j pv h2
  · obtain ⟨h1, h2⟩ := wipeE_get h
    rw [wipe_out h1]; exact S.own j pv fl h2 hf
  · obtain ⟨h1, h1'⟩ := wipeE_get h1
    obtain ⟨h2, h2'⟩ := wipeE_get h2
    rw [wipe_out h1] at s1
    rw [wipe_out h2] at s2
    exact S.inj j k q r a h1' f1 h2' f2 s1 s2
  · obtain ⟨h1, h2⟩ := wipeE_get h
    rw [wipe_out h1]; exact S.bo j pv h2
theorem Apart.wipe {D : Addr} (h : Apart env σ D) (vs : List Nat) : Apart (wipeE env vs) (L2.wipe σ vs) D := fun i p hi hf z => by
  obtain ⟨h1, h2⟩ := wipeE_get hi
  rw [wipe_out h1] at z
  exact h i p h2 hf z
/-- the comprehension is through: its own slots are what they were -/
theorem Sx.unwipe {env' : En} {vs : List Nat} (S : Sx g G env σ F H) (S' : Sx g G env' (L2.wipe σ vs) F' H') (sm : Same F F') (hz : ownFz vs env = true) : Sx g G (unwipe env vs env') σ F' H' := by
  have hl : env'.length = env.length := by rw [S'.len, wipe_length, S.len]
  have fzs : ∀ j q, j ∈ vs → env[j]? = some (some q) → q.2 = .fz := fun j q hj h => by
    have := List.all_eq_true.mp hz j hj
    rw [h] at this
    obtain ⟨p, fl⟩ := q
    cases fl <;> first | rfl | cases this
  refine ⟨S'.sub, S'.f0, S'.h0, S'.nf, S'.th, by rw [unwipe_len, hl]; exact S.len, fun j pv h => ?_, fun j pv fl h hf => ?_, fun j k q r a h1 f1 h2 f2 s1 s2 => ?_, fun j pv h => ?_⟩
  · rcases unwipe_get hl h with ⟨h1, h2⟩ | ⟨h1, h2⟩
    · obtain ⟨v, e1, e2⟩ := S.fz j pv h2
      exact ⟨v, e1, e2.mono sm⟩
    · obtain ⟨v, e1, e2⟩ := S'.fz j pv h2
      rw [wipe_out h1] at e1
      exact ⟨v, e1, e2⟩
  · rcases unwipe_get hl h with ⟨h1, h2⟩ | ⟨h1, h2⟩
    · exact absurd (fzs j _ h1 h2) hf
    · obtain ⟨a, e1, e2⟩ := S'.own j pv fl h2 hf
      rw [wipe_out h1] at e1
      exact ⟨a, e1, e2⟩
  · rcases unwipe_get hl h1 with ⟨k1, k2⟩ | ⟨k1, k2⟩
    · exact absurd (fzs j _ k1 k2) f1
    · rcases unwipe_get hl h2 with ⟨k3, k4⟩ | ⟨k3, k4⟩
      · exact absurd (fzs k _ k3 k4) f2
      · exact S'.inj j k q r a k2 f1 k4 f2 (by rw [wipe_out k1]; exact s1) (by rw [wipe_out k3]; exact s2)
  · rcases unwipe_get hl h with ⟨h1, h2⟩ | ⟨h1, h2⟩
    · cases fzs j _ h1 h2
    · have := S'.bo j pv h2
      rwa [wipe_out h1] at this
theorem Apart.unwipe {env' : En} {vs : List Nat} {D : Addr} (hl : env'.length = env.length) (ap : Apart env' (L2.wipe σ vs) D) (hz : ownFz vs env = true) : Apart (unwipe env vs env') σ D := fun i p hi hf z => by
  rcases unwipe_get hl hi with ⟨h1, h2⟩ | ⟨h1, h2⟩
  · have := List.all_eq_true.mp hz i h1
    rw [h2] at this
    obtain ⟨q, fl⟩ := p
    cases fl <;> first | exact absurd rfl hf | cases this
  · exact ap i p h2 hf (by rw [wipe_out h1]; exact z)
end
abbrev W0 : WX := fun _ _ _ _ => False
theorem bind_ok {α β : Type} {m : Out α} {k : α → En → Out β} {b : β} {e : En} (h : m.bind k = .ok b e) : ∃ a e1, m = .ok a e1 ∧ k a e1 = .ok b e := by
  cases m with
  | ok a e1 => exact ⟨a, e1, rfl, h⟩
  | exc x e => cases h
  | bad => cases h
section
variable {X : Cx} {C : Cal} {W : WX} {N : List Str} {sc : Scope}
theorem comp_ev {own : List Nat} {ig : IG} {it cond elt : IE} (env : En) : (ev C (.comp own ig it cond elt)).1 env = (evIt C it env).bind fun xs e1 => if ownFz own e1 then compEnd own e1 (compLoop (compTurnE own ig (ev C cond).2 (ev C elt).1) xs (wipeE e1 own)) else .bad := by
  unfold evIt
  rw [Out.assoc]
  show Out.bind _ _ = _
  congr 1
  funext r e1
  cases itemsP r.1 <;> rfl
theorem lc_imp {own : List Nat} {ig : IG} {it cond elt : IE} (hsub : ∀ j, j ∈ slotsG ig → j ∈ own) : ∀ σ H Q, tE (gx X) W (ev C (.comp own ig it cond elt)).1 σ H Q → tLc (tI (gx X) W (evIt C it)) (tGt (gx X) ig) (tT (gx X) W0 (ev C cond).2) (tE (gx X) W0 (ev C elt).1) own σ H Q := fun σ H Q q => by
  obtain ⟨G, env, F, S, r⟩ := q
  rw [comp_ev] at r
  refine ⟨G, env, F, S, Rd.bind r fun xs e1 J F1 H1 sm1 S1 h1 q1 => fun D nD => ?_⟩
  split at q1
  case isFalse => exact q1.elim
  rename_i hz
  generalize hf : compTurnE own ig (ev C cond).2 (ev C elt).1 = f at q1
  unfold compEnd at q1
  split at q1
  case h_2 => exact q1.elim
  rename_i ys e2 hl
  split at q1
  case isFalse => exact q1.elim
  rename_i hlen
  have nF : F1 D = none := Same.free S1.sub nD
  have nG : G.H D = none := by
    cases w : G.H D with
    | none => rfl
    | some o => obtain ⟨o', z⟩ := S1.th D o w; rw [nD] at z; cases z
  have apD : Apart e1 σ D := fun i p h1 h2 h3 => by
    obtain ⟨b, s1, _, s3, _⟩ := S1.own i p.1 p.2 h1 h2
    rw [h3] at s1; cases s1
    obtain ⟨o, eo⟩ := s3.here
    rw [nD] at eo; cases eo
  have new0 : New F1 H1 F1 (upd H1 D (.lst [])) := New.obj S1.sub nD
  have S2 : Sx (gx X) G (wipeE e1 own) (wipe σ own) F1 (upd H1 D (.lst [])) := (S1.wipe own).grow new0.sF new0.sH new0.sub new0.nf
  let Iv : Nat → Hp → Prop := fun i H => ∃ e F acc vs ys', Sx (gx X) G e (wipe σ own) F H ∧ Same F1 F ∧ F D = none ∧ H D = some (.lst vs) ∧ Reps (gx X) F acc vs ∧ Apart e (wipe σ own) D ∧ compLoop f (xs.drop i) e = .ok ys' e2 ∧ acc ++ ys' = ys
  refine ⟨fun i m H => m = xs.length - i ∧ i ≤ xs.length ∧ Iv i H, ⟨xs.length, by simp, Nat.zero_le _, wipeE e1 own, F1, [], [], ys, S2, .refl _, nF, upd_same, rfl, apD.wipe own, by simpa using hl, rfl⟩, ?_⟩
  rintro i m H3 ⟨rfl, hle, e, F3, acc, vs, ys', S3, sm3, nF3, hD, hacc, ap3, hlp, hys⟩
  by_cases hlt : i < xs.length
  · have hx : xs[i]? = some xs[i] := List.getElem?_eq_getElem hlt
    obtain ⟨hgo, hyl⟩ := (h1 F3 H3 sm3 S3.sub).1 i _ hx
    rw [List.drop_eq_getElem_cons hlt] at hlp
    obtain ⟨y, e3, hy, hlp⟩ := bind_ok hlp
    obtain ⟨ys2, e4, hlp2, hlp3⟩ := bind_ok hlp
    have e24 : e4 = e2 ∧ consO y ys2 = ys' := by
      have := hlp3
      injection this with z1 z2
      exact ⟨z2, z1⟩
    obtain ⟨rfl, hys2⟩ := e24
    refine .inr ⟨hgo, Iv (i + 1), fun H' hI => ⟨xs.length - (i + 1), by omega, rfl, hlt, hI⟩, fun x H' hx' => ?_⟩
    obtain ⟨F4, n4, r4⟩ := hyl x H' hx'
    have S4 := S3.grow n4.sF n4.sH n4.sub n4.nf
    have hD4 := n4.sH D _ hD
    have nF4 := n4.nf D _ hD nF3
    rw [← hf] at hy
    unfold compTurnE at hy
    split at hy
    case h_1 => cases hy
    rename_i e5 hset
    obtain ⟨k, e6, hk, hy⟩ := bind_ok hy
    refine ⟨nar e (wipe σ own) F4 H', e, F4, _, e5, S4.narrow, r4, hset, fun σ2 S5 hl2 hj2 => ?_⟩
    have hw : wipe σ2 own = wipe σ own := by
      have : wipe σ2 own = wipe (wipe σ own) own := wipe_eq hl2 fun j hj => hj2 j fun z => hj (hsub j z)
      rw [this]
      exact wipe_eq (wipe_length _ _) fun j hj => wipe_out hj
    refine ⟨hw, nar e (wipe σ own) F4 H', e5, F4, S5, ?_⟩
    rw [hk]
    intro b F6 H6 sm6 S6 hb
    have hb' : b = k := hb
    subst hb'
    cases b with
    | false =>
      have hy' : Out.ok none (wipeE e6 own) = Out.ok y e3 := hy
      injection hy' with z1 z2
      subst z1 z2
      obtain ⟨k1, k2, k3⟩ := S6.kept hD4 (show Apart e (wipe σ own) D from ap3)
      rw [if_neg (by simp)]
      refine ⟨wipeE e6 own, F6, acc, vs, ys2, ?_, (sm3.trans n4.sF).trans sm6, k2 nF4, k1, Reps.mono (n4.sF.trans sm6) _ hacc, ?_, hlp2, ?_⟩
      · have := (S4.widen S6).wipe own
        rwa [hw] at this
      · have := k3.wipe own
        rwa [hw] at this
      · rw [← hys, ← hys2]; rfl
    | true =>
      rw [if_pos rfl]
      obtain ⟨r, e7, hr, hy⟩ := bind_ok hy
      have hy' : Out.ok (some r.1) (wipeE e7 own) = Out.ok y e3 := hy
      injection hy' with z1 z2
      subst z1 z2
      refine ⟨nar e (wipe σ own) F4 H', e6, F6, S6, ?_⟩
      rw [hr]
      intro v F7 H7 sm7 S7 hv
      obtain ⟨F8, S8, r8, sm8⟩ := S7.fix hv
      obtain ⟨k1, k2, k3⟩ := S8.kept hD4 (show Apart e (wipe σ own) D from ap3)
      have hvl := hacc.length
      have hyl : acc.length + (ys2.length + 1) = ys.length := by
        rw [← hys, ← hys2]; simp [consO]
      refine ⟨vs, k1, by omega, wipeE e7 own, F8, acc ++ [r.1], vs ++ [v], ys2, ?_, (((sm3.trans n4.sF).trans sm6).trans sm7).trans sm8, k2 nF4, upd_same, ?_, ?_, hlp2, ?_⟩
      · have h9 : Sx (gx X) G (wipeE e7 own) (wipe σ own) F8 H7 := by
          have := (S4.widen S8).wipe own
          rwa [hw] at this
        have ap9 : Apart (wipeE e7 own) (wipe σ own) D := by
          have := k3.wipe own
          rwa [hw] at this
        exact h9.wr nG (k2 nF4) ap9
      · exact (Reps.mono (((n4.sF.trans sm6).trans sm7).trans sm8) _ hacc).snoc r8
      · have := k3.wipe own
        rwa [hw] at this
      · rw [← hys, ← hys2]; simp [consO]
  · have hi' : i = xs.length := by omega
    subst hi'
    rw [List.drop_length] at hlp
    have hlp' : Out.ok [] e = Out.ok ys' e2 := hlp
    injection hlp' with z1 z2
    subst z1 z2
    rw [List.append_nil] at hys
    subst hys
    refine .inl ⟨(h1 F3 H3 sm3 S3.sub).2, ?_⟩
    have SU := S1.unwipe S3 sm3 hz
    refine q1 (.ref D) F3 H3 sm3 SU ⟨D, rfl, nF3, ⟨vs, hD, hacc⟩, nG, ?_⟩
    exact ap3.unwipe (by rw [S3.len, wipe_length, S1.len]) hz
theorem ce_comp (K : Cok X C W N sc) {own : List Nat} {ig : IG} {it cond elt : IE} {tg iter e : Expr} {ifs : List Expr} {scope : Scope} {pos : Pos} (hi : PI X tg iter (tI (gx X) W (evIt C it))) (hb : blkC N sc scope (ownOf N own) = true) (ho : (ownOf N own).map (·.2) = own)
    (hsub : ∀ j, j ∈ slotsG ig → j ∈ own) (hg : ∀ (s : Shared) (H : Hp) (D : Addr) (cl : List (Str × Addr)) (fp : List Addr), PG (X.blk s H scope (compEnvC scope cl D X.env) fp) tg (tGt (gx X) ig))
    (ht : ∀ (s : Shared) (H : Hp) (D : Addr) (cl : List (Str × Addr)) (fp : List Addr), PTs (X.blk s H scope (compEnvC scope cl D X.env) fp) ifs (tT (gx X) W0 (ev C cond).2))
    (he : ∀ (s : Shared) (H : Hp) (D : Addr) (cl : List (Str × Addr)) (fp : List Addr), PE (X.blk s H scope (compEnvC scope cl D X.env) fp) e (tE (gx X) W0 (ev C elt).1))
    (hs : isSetX iter = false) : PE X (.ListComp e [⟨tg, iter, ifs, 0⟩] scope pos) (tE (gx X) W (ev C (.comp own ig it cond elt)).1) := by
  have hs' : ∀ x, foldedSetIterable iter X.env x = pure x := fun x => by cases iter <;> first | rfl | cases hs
  refine (pe_lc K.calm (by rw [K.hN]; exact K.nd) hi (blkOk_by (by rw [K.hN, K.hsc]; exact hb)) hg ht he hs').imp fun σ H Q q => ?_
  rw [ho]
  exact lc_imp hsub σ H Q q
end
end Bd

namespace Bd
open PySem L2
section
variable {X : Cx} {C : Cal} {W : WX} {N : List Str} {sc : Scope}
theorem takes0 {X : Cx} : Takes X W0 := fun u s' ⟨_, _, _, _, _, _, _, _, _, _, _, _, _, _, _, _, w⟩ => w.elim
theorem Cok.blk (K : Cok X C W N sc) (s : Shared) (H : Hp) (scope : Scope) (cl : List (Str × Addr)) (D : Addr) (fp : List Addr) : Cok (X.blk s H scope (compEnvC scope cl D X.env) fp) C W0 N (relS scope sc) where
  hN := K.hN
  nd := K.nd
  hsc := by rw [← K.hsc]; rfl
  calm := K.calm
  units := K.units
  blt := K.blt
  tys := K.tys
  rng := K.rng
  enm := K.enm
  zip := K.zip
  takes := takes0
  cst := K.cst
  cal := K.cal
/-- what the check of a row of arguments tells -/
structure ArgsOk (X : Cx) (C : Cal) (W : WX) (r : IE) (es : List Expr) : Prop where
  f : PA X es (tF (gx X) W (evF C r))
  o : PA X es (tOs (gx X) W (evOs C r))
  a : ∀ sg, PA X es (tA (gx X) W sg (evArg C r sg))
  star : (es.all fun e => !isStar e) = true
  nil : es = [] → r = .nil
  nil2 : r = .nil → es = []
theorem pa_bad {α β : Type} {R : Ent → L2.St → List α → En → List V → Hp → Hp → Prop} {es : List Expr} {f : En → Out (List α)} (h : ∀ e, f e = .bad) : PA X es (tG (gx X) W R f) :=
  ⟨fun pos pins s σ H Q I q => by
    obtain ⟨G, env, F, S, r⟩ := q
    rw [h] at r
    exact r.elim⟩
theorem args_nil : ArgsOk X C W .nil [] where
  f := ca_nil fun _ => rfl
  o := co_nil fun _ => rfl
  a := fun sg => by
    cases sg with
    | nil => exact cg_nil
    | cons _ _ => exact pa_bad (β := Unit) fun e => rfl
  star := rfl
  nil := fun _ => rfl
  nil2 := fun _ => rfl
theorem args_cons (K : Cok X C W N sc) {a r : IE} {e : Expr} {es : List Expr} (ca : chkE N a sc e = true) (hs : isStar e = false) (ha : CE X C W a e) (hr : ArgsOk X C W r es) : ArgsOk X C W (.cons a r) (e :: es) where
  f := cf_cons hs ha hr.f
  o := co_cons hs (ce_opd K ca ha) hr.o
  a := fun sg => by
    cases sg with
    | nil => exact pa_bad (β := Unit) fun e => rfl
    | cons m sg =>
      cases m with
      | false => exact cg_val hs ha (hr.a sg)
      | true =>
        by_cases hv : ∃ i, a = .var i
        · obtain ⟨i, rfl⟩ := hv
          cases e <;> try (cases ca; done)
          rename_i x pos
          obtain ⟨h1, h2⟩ := band (show (decide (N[i]? = some x) && visB sc x) = true from ca)
          exact cg_slot K (of_decide_eq_true h1) h2 (hr.a sg)
        · have hn : ∀ i, a ≠ .var i := fun i z => hv ⟨i, z⟩
          cases sg with
          | cons _ _ =>
            refine pa_bad (β := Unit) fun e => ?_
            cases a <;> first | rfl | exact absurd rfl (hn _)
          | nil =>
            by_cases hr0 : r = .nil
            · subst hr0
              cases es with
              | nil => exact cg_tmp hn hs ha
              | cons e2 es2 => exact absurd (hr.nil2 rfl) (by simp)
            · refine pa_bad (β := Unit) fun e => ?_
              have h0 : isNil r = false := by cases r <;> first | rfl | exact absurd rfl hr0
              have go : (if (([] : List Bool).isEmpty && isNil r) = true then ((ev C a).1 e).bind (fun x e1 => match x.2 with
                | .own => Out.ok [Arg.tmp x.1] e1
                | _ => .bad) else .bad) = (.bad : Out (List Arg)) := by rw [h0]; rfl
              cases a <;> first | exact go | exact absurd rfl (hn _)
  star := by
    show (!isStar e && es.all fun e => !isStar e) = true
    rw [hs, hr.star]; rfl
  nil := fun z => by cases z
  nil2 := fun z => by cases z
theorem subSet_ok {a b : List Nat} (h : subSet a b = true) : ∀ j, j ∈ a → j ∈ b := fun j hj => by
  have := List.all_eq_true.mp h j hj
  simpa using this
theorem callOf_ok {y : Str} {iter : Expr} {es : List Expr} (h : callOf y sc iter = some es) : ∃ p pos, iter = .Call (.Name y p) es [] pos ∧ glB sc y = true := by
  unfold callOf at h
  split at h
  · rename_i x p es' pos
    split at h
    · rename_i hc
      cases h
      obtain ⟨rfl, h2⟩ := hc
      exact ⟨p, pos, rfl, h2⟩
    · cases h
  · cases h
theorem rng_any (K : Cok X C W N sc) {as : IE} {tg : Expr} {es : List Expr} {p pos : Pos} (hg : glB sc "range" = true) (hc : chkA N as sc es = true) (hlen : es.length ≤ 2) (hE : ∀ a e, chkE N a sc e = true → (∃ r, as = .cons a r) ∨ (∃ b r, as = .cons b (.cons a r)) → CE X C W a e) :
    PI X tg (.Call (.Name "range" p) es [] pos) (tI (gx X) W (evIt C (.rng as))) := by
  have bad : ∀ {es : List Expr}, (∀ env, evIt C (.rng as) env = .bad) → PI X tg (.Call (.Name "range" p) es [] pos) (tI (gx X) W (evIt C (.rng as))) := fun h => ⟨fun pins s σ H Q I q => by
    obtain ⟨G, env, F, S, r⟩ := q
    rw [h] at r; exact r.elim⟩
  cases as <;> try (cases es <;> cases hc; done)
  · cases es with
    | cons _ _ => cases hc
    | nil => exact bad fun env => rfl
  · rename_i a r
    cases es with
    | nil => cases hc
    | cons e es =>
      obtain ⟨h12, h3⟩ := band (show (chkE N a sc e && !isStar e && chkA N r sc es) = true from hc)
      obtain ⟨h1, h2⟩ := band h12
      have ha := hE a e h1 (.inl ⟨r, rfl⟩)
      cases r <;> try (cases es <;> cases h3; done)
      · cases es with
        | cons _ _ => cases h3
        | nil => exact ci_rng1 K hg (nott h2) (ce_opd K h1 ha) fun env => rfl
      · rename_i b r
        cases es with
        | nil => cases h3
        | cons f es =>
          obtain ⟨h45, h6⟩ := band (show (chkE N b sc f && !isStar f && chkA N r sc es) = true from h3)
          obtain ⟨h4, h5⟩ := band h45
          have hb := hE b f h4 (.inr ⟨a, r, rfl⟩)
          cases r <;> try (cases es <;> cases h6; done)
          · cases es with
            | cons _ _ => cases h6
            | nil =>
              refine ci_rng2 K hg (nott h2) (nott h5) (ce_opd K h1 ha) (ce_opd K h4 hb) fun env => ?_
              show Out.bind _ _ = _
              congr 1
              funext x e1
              show Out.bind (Out.bind _ _) _ = _
              rw [Out.assoc]; rfl
          · exfalso
            cases es with
            | nil => cases h6
            | cons _ _ => simp only [List.length_cons] at hlen; omega
theorem ci_all (K : Cok X C W N sc) {it : IE} {tg iter : Expr} (hc : chkI N it sc tg iter = true) (hE : ∀ a e, chkE N a sc e = true → sizeOf a < sizeOf it + 1 → CE X C W a e) : PI X tg iter (tI (gx X) W (evIt C it)) := by
  cases it with
  | rng as =>
    have hc' : (match callOf "range" sc iter with
      | some es => chkA N as sc es && decide (es.length ≤ 2)
      | none => false) = true := hc
    split at hc'
    · rename_i es he
      obtain ⟨p, pos, rfl, hg⟩ := callOf_ok he
      obtain ⟨h1, h2⟩ := band hc'
      refine rng_any K hg h1 (of_decide_eq_true h2) fun a e ha hs => hE a e ha ?_
      rcases hs with ⟨r, rfl⟩ | ⟨b, r, rfl⟩
      · simp; omega
      · simp; omega
    · cases hc'
  | enm a =>
    have hc' : (match callOf "enumerate" sc iter with
      | some [e] => chkE N a sc e && !isStar e && isTup tg
      | _ => false) = true := hc
    split at hc'
    · rename_i e he
      obtain ⟨p, pos, rfl, hg⟩ := callOf_ok he
      obtain ⟨h12, h3⟩ := band hc'
      obtain ⟨h1, h2⟩ := band h12
      cases tg <;> try (cases h3; done)
      exact ci_enm K hg (nott h2) (hE a e h1 (by simp; omega))
    · cases hc'
  | zip a b =>
    have hc' : (match callOf "zip" sc iter with
      | some [e, f] => chkE N a sc e && chkE N b sc f && !isStar e && !isStar f && isTup tg
      | _ => false) = true := hc
    split at hc'
    · rename_i e f he
      obtain ⟨p, pos, rfl, hg⟩ := callOf_ok he
      obtain ⟨h1234, h5⟩ := band hc'
      obtain ⟨h123, h4⟩ := band h1234
      obtain ⟨h12, h3⟩ := band h123
      obtain ⟨h1, h2⟩ := band h12
      cases tg <;> try (cases h5; done)
      exact ci_zip K hg (nott h3) (nott h4) (hE a e h1 (by simp; omega)) (hE b f h2 (by simp; omega))
    · cases hc'
  | seq a => exact ci_any (hE a iter hc (by simp; omega))
  | _ => cases hc
theorem pts_of (K : Cok X C W N sc) {cond : IE} {ifs : List Expr} (hc : (match ifs with
        | [] => isNo cond
        | [c] => chkE N cond sc c
        | _ => false) = true) (hE : ∀ e, chkE N cond sc e = true → CE X C W cond e) : PTs X ifs (tT (gx X) W (ev C cond).2) := by
  split at hc
  · have e : cond = .no := by cases cond <;> first | rfl | cases hc
    subst e
    refine ⟨fun pins s σ H Q I q => pts_nil.run pins s σ H Q I ?_⟩
    obtain ⟨G, env, F, S, r⟩ := q
    exact r true F H (.refl _) S rfl
  · exact pts_one (hE _ hc).2
  · cases hc
/-- the small language's run is the text's: by its size -/
theorem snd_all : ∀ (n : Nat), (∀ (a : IE), sizeOf a < n → ∀ (N : List Str) (sc : Scope) (e : Expr), chkE N a sc e = true → ∀ (X : Cx) (C : Cal) (W : WX), Cok X C W N sc → CE X C W a e) ∧
    (∀ (r : IE), sizeOf r < n → ∀ (N : List Str) (sc : Scope) (es : List Expr), chkA N r sc es = true → ∀ (X : Cx) (C : Cal) (W : WX), Cok X C W N sc → ArgsOk X C W r es) := by
  intro n
  induction n with
  | zero => exact ⟨fun a h => by omega, fun a h => by omega⟩
  | succ n ih =>
    obtain ⟨ihE, ihA⟩ := ih
    refine ⟨fun a hn N sc e hc X C W K => ?_, fun r hn N sc es hc X C W K => ?_⟩
    · cases a with
      | var i =>
        cases e <;> try (cases hc; done)
        obtain ⟨h1, h2⟩ := band hc
        exact ce_var K (of_decide_eq_true h1) h2
      | int i =>
        cases e <;> try (cases hc; done)
        rename_i c k p
        cases c <;> try (cases hc; done)
        have : i = _ := of_decide_eq_true hc
        subst this
        exact ce_int
      | str i =>
        cases e <;> try (cases hc; done)
        rename_i c k p
        cases c <;> try (cases hc; done)
        have : i = _ := of_decide_eq_true hc
        subst this
        exact ce_str
      | bl i =>
        cases e <;> try (cases hc; done)
        rename_i c k p
        cases c <;> try (cases hc; done)
        have : i = _ := of_decide_eq_true hc
        subst this
        exact ce_bl
      | non =>
        cases e <;> try (cases hc; done)
        rename_i c k p
        cases c <;> try (cases hc; done)
        exact ce_non
      | cst x =>
        cases e <;> try (cases hc; done)
        obtain ⟨h1, h2⟩ := band hc
        have : x = _ := of_decide_eq_true h1
        subst this
        exact ce_cst K h2
      | fnv x =>
        cases e <;> try (cases hc; done)
        obtain ⟨h1, h2⟩ := band hc
        have : x = _ := of_decide_eq_true h1
        subst this
        exact ce_fnv K h2
      | tyv t =>
        cases e <;> try (cases hc; done)
        obtain ⟨h12, h3⟩ := band hc
        obtain ⟨h1, h2⟩ := band h12
        have : tyStr t = _ := of_decide_eq_true h1
        subst this
        exact ce_tyv K h2 (by simpa using h3)
      | bin op a b =>
        cases e <;> try (cases hc; done)
        obtain ⟨h12, h3⟩ := band hc
        obtain ⟨h1, h2⟩ := band h12
        have : op = _ := of_decide_eq_true h1
        subst this
        exact ce_bin K h2 h3 (ihE a (by simp at hn; omega) N sc _ h2 X C W K) (ihE b (by simp at hn; omega) N sc _ h3 X C W K)
      | un op a =>
        cases e <;> try (cases hc; done)
        obtain ⟨h12, h3⟩ := band hc
        obtain ⟨h1, h2⟩ := band h12
        have : op = _ := of_decide_eq_true h1
        subst this
        exact ce_un K h2 (ihE a (by simp at hn; omega) N sc _ h2 X C W K) (by simpa using h3)
      | not a =>
        cases e <;> try (cases hc; done)
        rename_i o l p
        cases o <;> try (cases hc; done)
        exact ce_not K hc (ihE a (by simp at hn; omega) N sc _ hc X C W K)
      | cmp op a b =>
        cases e <;> try (cases hc; done)
        rename_i l ops rs p
        match ops, rs, hc with
        | [o], [r], hc =>
          obtain ⟨h123, h4⟩ := band (show (decide (op = o) && chkE N a sc l && chkE N b sc r && !isSetX r) = true from hc)
          obtain ⟨h12, h3⟩ := band h123
          obtain ⟨h1, h2⟩ := band h12
          have : op = _ := of_decide_eq_true h1
          subst this
          exact ce_cmp K h2 h3 (nott h4) (ihE a (by simp at hn; omega) N sc _ h2 X C W K) (ihE b (by simp at hn; omega) N sc _ h3 X C W K)
      | chn op op' a b c =>
        cases e <;> try (cases hc; done)
        rename_i l ops rs p
        match ops, rs, hc with
        | [o, o'], [r, q], hc =>
          obtain ⟨h123456, h7⟩ := band (show (decide (op = o) && decide (op' = o') && chkE N a sc l && chkE N b sc r && chkE N c sc q && !isSetX r && !isSetX q) = true from hc)
          obtain ⟨h12345, h6⟩ := band h123456
          obtain ⟨h1234, h5⟩ := band h12345
          obtain ⟨h123, h4⟩ := band h1234
          obtain ⟨h12, h3⟩ := band h123
          obtain ⟨h1, h2⟩ := band h12
          have e1 : op = _ := of_decide_eq_true h1
          have e2 : op' = _ := of_decide_eq_true h2
          subst e1 e2
          exact ce_chn K h3 h4 h5 (nott h7) (ihE a (by simp at hn; omega) N sc _ h3 X C W K) (ihE b (by simp at hn; omega) N sc _ h4 X C W K) (ihE c (by simp at hn; omega) N sc _ h5 X C W K)
      | and a b =>
        cases e <;> try (cases hc; done)
        rename_i o vs p
        match o, vs, hc with
        | .And, x :: y :: r, hc =>
          obtain ⟨h1, h2⟩ := band hc
          have h2' : chkE N b sc (bx .And y r p) = true := by cases r <;> exact h2
          exact ce_and (ihE a (by simp at hn; omega) N sc _ h1 X C W K) (ihE b (by simp at hn; omega) N sc _ h2' X C W K)
      | or a b =>
        cases e <;> try (cases hc; done)
        rename_i o vs p
        match o, vs, hc with
        | .Or, x :: y :: r, hc =>
          obtain ⟨h1, h2⟩ := band hc
          have h2' : chkE N b sc (bx .Or y r p) = true := by cases r <;> exact h2
          exact ce_or (ihE a (by simp at hn; omega) N sc _ h1 X C W K) (ihE b (by simp at hn; omega) N sc _ h2' X C W K)
      | ife c a b =>
        cases e <;> try (cases hc; done)
        obtain ⟨h12, h3⟩ := band hc
        obtain ⟨h1, h2⟩ := band h12
        exact ce_ife (ihE c (by simp at hn; omega) N sc _ h1 X C W K) (ihE a (by simp at hn; omega) N sc _ h2 X C W K) (ihE b (by simp at hn; omega) N sc _ h3 X C W K)
      | tup as =>
        cases e <;> try (cases hc; done)
        exact ce_tup (ihA as (by simp at hn; omega) N sc _ hc X C W K).f
      | lst as =>
        cases e <;> try (cases hc; done)
        exact ce_lst (ihA as (by simp at hn; omega) N sc _ hc X C W K).f
      | nil => cases e <;> cases hc
      | cons a r => cases e <;> cases hc
      | no => cases e <;> cases hc
      | rng as => cases e <;> cases hc
      | enm a => cases e <;> cases hc
      | zip a b => cases e <;> cases hc
      | seq a => cases e <;> cases hc
      | sub a b =>
        cases e <;> try (cases hc; done)
        obtain ⟨h12, h3⟩ := band hc
        obtain ⟨h1, h2⟩ := band h12
        exact ce_sub K h1 h2 (nott h3) (ihE a (by simp at hn; omega) N sc _ h1 X C W K) (ihE b (by simp at hn; omega) N sc _ h2 X C W K)
      | slc a lo hi =>
        cases e <;> try (cases hc; done)
        rename_i o i p
        cases i <;> try (cases hc; done)
        rename_i l h st p2
        cases st <;> try (cases hc; done)
        obtain ⟨h12, h3⟩ := band hc
        obtain ⟨h1, h2⟩ := band h12
        have po0 : ∀ (lo : IE), isNo lo = true → PO X none (tP (gx X) W (part lo (ev C lo).1)) := fun lo hl => by
          have e : lo = .no := by cases lo <;> first | rfl | cases hl
          subst e
          exact part_none
        have pl : PO X l (tP (gx X) W (part lo (ev C lo).1)) := by
          cases l with
          | none => exact po0 lo h2
          | some e => exact part_some K h2 (ihE lo (by simp at hn; omega) N sc _ h2 X C W K)
        have ph : PO X h (tP (gx X) W (part hi (ev C hi).1)) := by
          cases h with
          | none => exact po0 hi h3
          | some e => exact part_some K h3 (ihE hi (by simp at hn; omega) N sc _ h3 X C W K)
        exact ce_slc K h1 (ihE a (by simp at hn; omega) N sc _ h1 X C W K) pl ph
      | call f as =>
        cases e <;> try (cases hc; done)
        rename_i fn es ks p
        cases fn <;> try (cases hc; done)
        cases ks <;> try (cases hc; done)
        obtain ⟨h12, h3⟩ := band hc
        obtain ⟨h1, h2⟩ := band h12
        have : f = _ := of_decide_eq_true h1
        subst this
        have A := ihA as (by simp at hn; omega) N sc _ h3 X C W K
        exact ce_call K h2 A.star A.nil fun sg _ => A.a sg
      | callk f m ks ap ak =>
        cases e <;> try (cases hc; done)
        rename_i fn es kws p
        cases fn <;> try (cases hc; done)
        cases kws <;> try (cases hc; done)
        rename_i k kws
        obtain ⟨h123, h4⟩ := band hc
        obtain ⟨h12, h3⟩ := band h123
        obtain ⟨h1, h2⟩ := band h12
        have : f = _ := of_decide_eq_true h1
        subst this
        have A := ihA ap (by simp at hn; omega) N sc _ h3 X C W K
        exact ce_callk K h2 A.star A.f A.nil (kw_ok ak ks _ h4 fun a e ha he => ihE a (by simp at hn; omega) N sc e he X C W K)
      | blt f as =>
        cases e <;> try (cases hc; done)
        rename_i fn es ks p
        cases fn <;> try (cases hc; done)
        cases ks <;> try (cases es <;> cases hc; done)
        cases es <;> try (cases hc; done)
        obtain ⟨h12, h3⟩ := band hc
        obtain ⟨h1, h2⟩ := band h12
        have : f.name = _ := of_decide_eq_true h1
        subst this
        have A := ihA as (by simp at hn; omega) N sc _ h3 X C W K
        exact ce_blt K h2 A.star A.o
      | mth m o as =>
        cases e <;> try (cases hc; done)
        rename_i fn es ks p
        cases fn <;> try (cases hc; done)
        rename_i q x ap
        match es, ks, hc with
        | [e], [], hc =>
          obtain ⟨h1234, h5⟩ := band (show (mthOk m && decide (m.name = x) && chkE N o sc q && chkA N as sc [e] && plainBase q && (ap.endLine == p.line)) = true from hc)
          obtain ⟨h123, h4⟩ := band h1234
          obtain ⟨h12, h3⟩ := band h123
          obtain ⟨h01, h2⟩ := band h12
          obtain ⟨h0, h1⟩ := band h01
          have : m.name = _ := of_decide_eq_true h1
          subst this
          obtain ⟨a, rfl⟩ : ∃ a, as = .cons a .nil := by
            cases as with
            | cons a r =>
              obtain ⟨_, h8⟩ := band (show (chkE N a sc e && !isStar e && chkA N r sc []) = true from h3)
              cases r with
              | nil => exact ⟨a, rfl⟩
              | _ => cases h8
            | _ => cases h3
          obtain ⟨h67, h8⟩ := band (show (chkE N a sc e && !isStar e && chkA N .nil sc []) = true from h3)
          obtain ⟨h6, h7⟩ := band h67
          have ho := ce_opd K h2 (ihE o (by simp at hn; omega) N sc _ h2 X C W K)
          have ha := ce_opd K h6 (ihE a (by simp at hn; omega) N sc _ h6 X C W K)
          have kd : ∀ {m : Mth} {id : String}, Slot "str" m.name id → typeOf (.builtin id) = pure (.type "method_descriptor") → MtR X id (rM (gx X) m) → (∀ o, kindO m o = true → ∃ z, o = some (.str z)) → CE X C W (.mth m o (.cons a .nil)) (.Call (.Attribute q m.name ap) [e] [] p) :=
            fun sl ty ru hk => ce_mth sl ty ru hk (nott h7) h4 h5 ho ha fun env => rfl
          have str : ∀ {m : Mth}, (m = .split ∨ m = .join ∨ m = .replace) → ∀ o, kindO m o = true → ∃ z, o = some (.str z) := fun hm o hk => by
            rcases hm with rfl | rfl | rfl <;> (cases o with
              | none => cases hk
              | some p => cases p <;> first | exact ⟨_, rfl⟩ | cases hk)
          cases m with
          | split => exact kd F.slot_str_split F.type_str_split mt_splitP (str (.inl rfl))
          | join => exact kd F.slot_str_join F.type_str_join mt_joinP (str (.inr (.inl rfl)))
          | _ => cases h0
      | comp own g it cond elt =>
        cases e <;> try (cases hc; done)
        rename_i e gens scope pos
        match gens, hc with
        | [⟨tg, iter, ifs, ay⟩], hc =>
          obtain ⟨c1, h8⟩ := band hc
          obtain ⟨c2, h7⟩ := band c1
          obtain ⟨c3, h6⟩ := band c2
          obtain ⟨c4, h5⟩ := band c3
          obtain ⟨c5, h4⟩ := band c4
          obtain ⟨c6, h3⟩ := band c5
          obtain ⟨c7, h2⟩ := band c6
          obtain ⟨h0, h1⟩ := band c7
          have h0' : ay = 0 := of_decide_eq_true h0
          subst h0'
          have hI : chkI N it sc tg iter = true := h1
          refine ce_vt (a := .comp own g it cond elt) (f := (ev C (.comp own g it cond elt)).1) rfl rfl ?_
          refine ce_comp K (ci_all K hI fun a e ha hs => ihE a (by simp at hn; omega) N sc e ha X C W K) h2 (of_decide_eq_true h3) (subSet_ok h4) (fun s H D cl fp => ?_) (fun s H D cl fp => ?_) (fun s H D cl fp => ?_) (nott h8)
          · exact cg_ok (K.blk s H scope cl D fp) (fun x hx => hx) h5
          · exact pts_of (K.blk s H scope cl D fp) h6 fun e he => ihE cond (by simp at hn; omega) N _ e he _ C W0 (K.blk s H scope cl D fp)
          · exact (ihE elt (by simp at hn; omega) N _ e h7 _ C W0 (K.blk s H scope cl D fp)).1
    · cases r <;> try (cases es <;> cases hc; done)
      · cases es <;> try (cases hc; done)
        exact args_nil
      · rename_i a r
        cases es <;> try (cases hc; done)
        rename_i e es
        obtain ⟨h12, h3⟩ := band (show (chkE N a sc e && !isStar e && chkA N r sc es) = true from hc)
        obtain ⟨h1, h2⟩ := band h12
        exact args_cons K h1 (nott h2) (ihE a (by simp at hn; omega) N sc _ h1 X C W K) (ihA r (by simp at hn; omega) N sc _ h3 X C W K)
end
end Bd

namespace Bd
open PySem L2
/-! ### statements -/
inductive IS where
  | nil
  | seq (a b : IS)
  | asg (i : Nat) (e : IE)
  | unp (is : List Nat) (e : IE)
  | par (is : List Nat) (es : IE)
  | seti (i : Nat) (ix e : IE)
  | app (i : Nat) (e : IE)
  | expr (e : IE)
  | ret (e : IE)
  | retN
  | ife (c : IE) (a b : IS)
  | loop (g : IG) (it : IE) (b : IS)
  | whl (fuel : Nat) (c : IE) (b : IS)
  | brk | cnt | pass
  deriving Inhabited
inductive Fo where
  | nx (e : En)
  | ret (r : PV × Fl) (e : En)
  | brk (e : En)
  | cnt (e : En)
  | exc (x : PX) (e : En)
  | bad
def Out.fo {α : Type} (m : Out α) (k : α → En → Fo) : Fo :=
  match m with
  | .ok a e => k a e
  | .exc x e => .exc x e
  | .bad => .bad
def Fo.andThen (f : Fo) (k : En → Fo) : Fo :=
  match f with
  | .nx e => k e
  | f => f
/-- a turn of a loop -/
def turnK (k : En → Fo) : Fo → Fo
  | .nx e => k e
  | .cnt e => k e
  | .brk e => .nx e
  | f => f
/-- the turns of a for -/
def forLoop (g : IG) (b : En → Fo) : List PV → En → Fo
  | [], e => .nx e
  | x :: r, e => match setG g x e with
    | none => .bad
    | some e1 => turnK (forLoop g b r) (b e1)
def whileLoop (c : En → Out Bool) (b : En → Fo) : Nat → En → Fo
  | 0, _ => .bad
  | n + 1, e => (c e).fo fun k e1 => if k then turnK (whileLoop c b n) (b e1) else .nx e1
/-- stores, all at once -/
def setPar : List Nat → List PV → En → En
  | i :: is, p :: ps, e => setPar is ps (e.set i (some (p, .fz)))
  | _, _, e => e
/-- the list that a slot may change -/
def lstAt (e : En) (i : Nat) : Option (List PV × Fl) := match e[i]? with
  | some (some (.lst xs, .own)) => some (xs, .own)
  | some (some (.lst xs, .bor)) => some (xs, .bor)
  | _ => none
def setItemE (i : Nat) (x : Opd) (p : PV) (e : En) : Fo :=
  match lstAt e i with
  | none => .bad
  | some (xs, fl) => match rsO e x with
    | some (.int k) => (match ixN xs.length k with
      | some j => .nx (e.set i (some (.lst (xs.set j p), fl)))
      | none => .bad)
    | _ => .bad
def appE (i : Nat) (p : PV) (e : En) : Fo :=
  match lstAt e i with
  | none => .bad
  | some (xs, fl) => if xs.length < sizeLine then .nx (e.set i (some (.lst (xs ++ [p]), fl))) else .bad
/-- a value is handed back: a list of one's own stays one that may be changed -/
def retE (C : Cal) (a : IE) (e : En) : Fo :=
  match a with
  | .var i => (match e[i]? with
    | some (some (p, .own)) => .ret (p, .own) (e.set i none)
    | _ => ((ev C a).1 e).fo fun r e1 => .ret r e1)
  | _ => ((ev C a).1 e).fo fun r e1 => .ret r e1
def exec (C : Cal) : IS → En → Fo
  | .nil, e => .nx e
  | .seq a b, e => (exec C a e).andThen (exec C b)
  | .asg i a, e => ((ev C a).1 e).fo fun r e1 => .nx (e1.set i (some r))
  | .unp is a, e => ((ev C a).1 e).fo fun r e1 => match setG (.tup is) r.1 e1 with
    | some e2 => .nx e2
    | none => .bad
  | .par is as, e => (evF C as e).fo fun ps e1 => if is.length = ps.length then .nx (setPar is ps e1) else .bad
  | .seti i ix a, e => ((ev C a).1 e).fo fun r e1 => if (lstAt e1 i).isSome then (opd ix (ev C ix).1 e1).fo fun x e2 => setItemE i x r.1 e2 else .bad
  | .app i a, e => if (lstAt e i).isSome then ((ev C a).1 e).fo fun r e1 => appE i r.1 e1 else .bad
  | .expr a, e => ((ev C a).1 e).fo fun _ e1 => .nx e1
  | .ret a, e => retE C a e
  | .retN, e => .ret (.non, .fz) e
  | .ife c a b, e => ((ev C c).2 e).fo fun k e1 => if k then exec C a e1 else exec C b e1
  | .loop g it b, e => (evIt C it e).fo fun xs e1 => forLoop g (exec C b) xs e1
  | .whl n c b, e => whileLoop (ev C c).2 (exec C b) n e
  | .brk, e => .brk e
  | .cnt, e => .cnt e
  | .pass, e => .nx e

/-! ### the check -/
def nameOf (sc : Scope) (line : Nat) : Expr → Option Str
  | .Name id pos => if sc.names.lookup id == some .local && pos.line == line then some id else none
  | _ => none
/-- would the stores be made from the right? (none: the model does not say) -/
def swapOf (sc : Scope) (ts : List Expr) (value : Expr) : Option (Option (List Str)) :=
  match value with
  | .Tuple vs _ _ =>
    if (!(ts.length == 2 || ts.length == 3) || vs.length != ts.length) = true then some none
    else if (vs.any isStar) = true then some none
    else
      let line := (ts.head?.map (·.pos.line)).getD 0
      let names := ts.filterMap (nameOf sc line)
      if (names.length != ts.length || names.eraseDups.length != names.length) = true then some none
      else if (vs.all (foldedForSure 8)) = true then some none
      else if (vs.all (constantsAlone 8)) = true then none
      else some (some names)
  | _ => some none
theorem swap_eq {sc : Scope} {env : Env} (hsc : env.scope = sc) (hk : sc.kind = .function) {ts : List Expr} {kt : Nat} {pt : Pos} {value : Expr} {r : Option (List Str)} (h : swapOf sc ts value = some r) : swappedStores [.Tuple ts kt pt] value env = pure r := by
  have hb : env.blockKind = .function := by unfold Env.blockKind; rw [hsc, hk]; rfl
  have hko : ∀ id, env.kindOf id = sc.names.lookup id := fun id => by unfold Env.kindOf; rw [hsc]
  cases value with
  | Tuple vs k2 p2 =>
    unfold swappedStores
    simp only [hb, hko]
    have e0 : ∀ (c : Bool), (c || (ScopeKind.function != ScopeKind.function)) = c := fun c => by cases c <;> rfl
    rw [e0]
    have es : ∀ (f : Expr → Bool), (∀ e, f e = isStar e) → vs.any f = vs.any isStar := fun f hf => by
      congr 1
      funext e
      exact hf e
    have en : ∀ (f : Expr → Option Str) (line : Nat), (∀ e, f e = nameOf sc line e) → ts.filterMap f = ts.filterMap (nameOf sc line) := fun f line hf => by
      congr 1
      funext e
      exact hf e
    rw [es _ (fun e => by cases e <;> rfl), en _ _ (fun e => by cases e <;> rfl)]
    unfold swapOf at h
    simp only at h
    split at h
    · rename_i h1; cases h; rw [if_pos h1]
    · rename_i h1
      rw [if_neg h1]
      split at h
      · rename_i h2; cases h; rw [if_pos h2]
      · rename_i h2
        rw [if_neg h2]
        split at h
        · rename_i h3; cases h; rw [if_pos h3]
        · rename_i h3
          rw [if_neg h3]
          split at h
          · rename_i h4; cases h; rw [if_pos h4]
          · rename_i h4
            rw [if_neg h4]
            split at h
            · cases h
            · rename_i h5
              cases h
              rw [if_neg h5]
  | _ => cases h; rfl
/-- a comprehension whose stores are exchanged with its name's -/
def swapLC (sc : Scope) (x : Str) (p : Pos) : Expr → Bool
  | .ListComp e gs scope pos => (match sc.names.lookup x with
      | some .local => true
      | _ => false) && (p.line == pos.line) && !(scope.names.any fun (n, k) => n == x && (k == .local || k == .cell))
  | _ => false
inductive ParV where
  | two (x : Str) (px : Pos) (y : Str) (py : Pos) (a b : Expr) (k2 : Nat) (p2 : Pos)
  | thr (x : Str) (px : Pos) (y : Str) (py : Pos) (z : Str) (pz : Pos) (a b c : Expr) (k2 : Nat) (p2 : Pos)
  | no
def nmOf : Expr → Option (Str × Pos)
  | .Name x p => some (x, p)
  | _ => none
def parOf : Stmt → ParV
  | .Assign [.Tuple ts _ _] (.Tuple vs k2 p2) _ => (match ts, vs with
    | [s, t], [a, b] => (match nmOf s, nmOf t with
      | some (x, px), some (y, py) => .two x px y py a b k2 p2
      | _, _ => .no)
    | [s, t, u], [a, b, c] => (match nmOf s, nmOf t, nmOf u with
      | some (x, px), some (y, py), some (z, pz) => .thr x px y py z pz a b c k2 p2
      | _, _, _ => .no)
    | _, _ => .no)
  | _ => .no
theorem nmOf_eq {e : Expr} {x : Str} {p : Pos} (h : nmOf e = some (x, p)) : e = .Name x p := by
  unfold nmOf at h
  split at h
  · cases h; rfl
  · cases h
theorem parOf_two {st : Stmt} {x y : Str} {px py p2 : Pos} {a b : Expr} {k2 : Nat} (h : parOf st = .two x px y py a b k2 p2) : ∃ kt pt pos, st = .Assign [.Tuple [.Name x px, .Name y py] kt pt] (.Tuple [a, b] k2 p2) pos := by
  unfold parOf at h
  split at h
  · split at h
    · split at h
      · rename_i h1 h2
        cases h
        rw [nmOf_eq h1, nmOf_eq h2]
        exact ⟨_, _, _, rfl⟩
      · cases h
    · split at h <;> cases h
    · cases h
  · cases h
theorem parOf_thr {st : Stmt} {x y z : Str} {px py pz p2 : Pos} {a b c : Expr} {k2 : Nat} (h : parOf st = .thr x px y py z pz a b c k2 p2) : ∃ kt pt pos, st = .Assign [.Tuple [.Name x px, .Name y py, .Name z pz] kt pt] (.Tuple [a, b, c] k2 p2) pos := by
  unfold parOf at h
  split at h
  · split at h
    · split at h <;> cases h
    · split at h
      · rename_i h1 h2 h3
        cases h
        rw [nmOf_eq h1, nmOf_eq h2, nmOf_eq h3]
        exact ⟨_, _, _, rfl⟩
      · cases h
    · cases h
  · cases h
def chkPar (N : List Str) (sc : Scope) (is : List Nat) (es : IE) (st : Stmt) : Bool := match parOf st with
  | .two x px y py a b k2 p2 => (match is with
    | [i, j] => decide (swapOf sc [.Name x px, .Name y py] (.Tuple [a, b] k2 p2) = some (some [x, y])) && decide (N[i]? = some x) && decide (N[j]? = some y) && decide (i ≠ j) && decide (sc.names.lookup x = some .local) && decide (sc.names.lookup y = some .local) && chkA N es sc [a, b]
    | _ => false)
  | .thr x px y py z pz a b c k2 p2 => (match is with
    | [i, j, l] => decide (swapOf sc [.Name x px, .Name y py, .Name z pz] (.Tuple [a, b, c] k2 p2) = some (some [x, y, z])) && decide (N[i]? = some x) && decide (N[j]? = some y) && decide (N[l]? = some z) && decide (i ≠ j) && decide (i ≠ l) && decide (j ≠ l) && decide (sc.names.lookup x = some .local) && decide (sc.names.lookup y = some .local) && decide (sc.names.lookup z = some .local) && chkA N es sc [a, b, c]
    | _ => false)
  | .no => false
mutual
def chkS (N : List Str) (sc : Scope) : IS → List Stmt → Bool
  | .nil, [] => true
  | .seq a b, st :: sts => chkS N sc b sts && chkT N sc a st
  | _, _ => false
def chkT (N : List Str) (sc : Scope) : IS → Stmt → Bool
  | .asg i e, .Assign [.Name x p] v _ => decide (N[i]? = some x) && locB sc (fun _ => true) x && chkE N e sc v && (!isLC v || swapLC sc x p v)
  | .unp is e, .Assign [.Tuple ts _ _] v _ => chkNames N sc (fun _ => true) is ts && chkE N e sc v && decide (swapOf sc ts v = some none) && !isLC v
  | .par is es, st => chkPar N sc is es st
  | .seti i ix e, .Assign [.Subscript (.Name x _) j _] v _ => decide (N[i]? = some x) && visB sc x && chkE N ix sc j && !isSliceX j && chkE N e sc v && !isLC v
  | .app i e, .Expr (.Call (.Attribute (.Name x _) m ap) [v] [] cp) _ => decide (m = "append") && decide (N[i]? = some x) && visB sc x && chkE N e sc v && !isStar v && (ap.endLine == cp.line)
  | .expr e, .Expr v _ => chkE N e sc v && !isLC v
  | .ret e, .Return (some v) _ => chkE N e sc v
  | .retN, .Return none _ => true
  | .ife c a b, .If t x y _ => chkE N c sc t && chkS N sc a x && chkS N sc b y
  | .loop g it b, .For tg iter body [] _ => chkI N it sc tg iter && chkG N sc (fun _ => true) g tg && chkS N sc b body && !isSetX iter
  | .whl _ c b, .While t body [] _ => chkE N c sc t && chkS N sc b body
  | .brk, .Break _ => true
  | .cnt, .Continue _ => true
  | .pass, .Pass _ => true
  | _, _ => false
end
end Bd

namespace Bd
open PySem L2
section
variable {g : Gx} {G : Ent} {env : En} {σ : L2.St} {F H F' H' : Hp}
theorem set_get {i j : Nat} {env : En} {x : Option (PV × Fl)} {q : PV × Fl} (h : (env.set i x)[j]? = some (some q)) : (j = i ∧ x = some q ∧ i < env.length) ∨ (j ≠ i ∧ env[j]? = some (some q)) := by
  by_cases hj : i = j
  · subst hj
    by_cases hl : i < env.length
    · rw [List.getElem?_set_self hl] at h
      cases h; exact .inl ⟨rfl, rfl, hl⟩
    · rw [List.getElem?_eq_none (by simpa using hl)] at h; cases h
  · rw [List.getElem?_set_ne hj] at h
    exact .inr ⟨fun z => hj z.symm, h⟩
/-- a slot takes a list of one's own -/
theorem Sx.setOwn (S : Sx g G env σ F H) {i : Nat} {p : PV} {a : Addr} (hF : F a = none) (ho : OwnR g F H p a) (hG : G.H a = none) (ap : Apart env σ a) : Sx g G (env.set i (some (p, .own))) (σ.set i (some (.ref a))) F H := by
  refine ⟨S.sub, S.f0, S.h0, S.nf, S.th, by simpa using S.len, fun j pv h => ?_, fun j pv fl h hf => ?_, fun j k q r b h1 f1 h2 f2 s1 s2 => ?_, fun j pv h => ?_⟩
  · rcases set_get h with ⟨rfl, hq, hl⟩ | ⟨hj, hq⟩
    · cases hq
    · rw [List.getElem?_set_ne (Ne.symm hj)]; exact S.fz j pv hq
  · rcases set_get h with ⟨rfl, hq, hl⟩ | ⟨hj, hq⟩
    · cases hq
      exact ⟨a, List.getElem?_set_self (by rw [← S.len]; exact hl), hF, ho, .inr hG, fun _ => .inr hG⟩
    · rw [List.getElem?_set_ne (Ne.symm hj)]; exact S.own j pv fl hq hf
  · rcases set_get h1 with ⟨rfl, hq, hl⟩ | ⟨hj, hq⟩
    · rcases set_get h2 with ⟨rfl, hr, hl⟩ | ⟨hk, hr⟩
      · rfl
      · rw [List.getElem?_set_self (by rw [← S.len]; exact hl)] at s1
        cases s1
        rw [List.getElem?_set_ne (Ne.symm hk)] at s2
        exact absurd s2 (ap k _ hr f2)
    · rw [List.getElem?_set_ne (Ne.symm hj)] at s1
      rcases set_get h2 with ⟨rfl, hr, hl⟩ | ⟨hk, hr⟩
      · rw [List.getElem?_set_self (by rw [← S.len]; exact hl)] at s2
        cases s2
        exact absurd s1 (ap j _ hq f1)
      · rw [List.getElem?_set_ne (Ne.symm hk)] at s2
        exact S.inj j k q r b hq f1 hr f2 s1 s2
  · rcases set_get h with ⟨rfl, hq, hl⟩ | ⟨hj, hq⟩
    · cases hq
    · rw [List.getElem?_set_ne (Ne.symm hj)]; exact S.bo j pv hq
theorem Sx.setV (S : Sx g G env σ F H) {i : Nat} {r : PV × Fl} {v : V} (h : VR g G env σ F H r v) : Sx g G (env.set i (some r)) (σ.set i (some v)) F H := by
  obtain ⟨p, fl⟩ := r
  cases fl with
  | fz => exact S.setFz h
  | own =>
    obtain ⟨a, rfl, h1, h2, h3, h4⟩ := h
    exact S.setOwn h1 h2 h3 h4
  | bor => exact h.elim
/-- a slot is forgotten -/
theorem Sx.forget (S : Sx g G env σ F H) (i : Nat) : Sx g G (env.set i none) σ F H := by
  refine ⟨S.sub, S.f0, S.h0, S.nf, S.th, by simpa using S.len, fun j pv h => ?_, fun j pv fl h hf => ?_, fun j k q r b h1 f1 h2 f2 s1 s2 => ?_, fun j pv h => ?_⟩
  · rcases set_get h with ⟨_, hq, _⟩ | ⟨_, hq⟩
    · cases hq
    · exact S.fz j pv hq
  · rcases set_get h with ⟨_, hq, _⟩ | ⟨_, hq⟩
    · cases hq
    · exact S.own j pv fl hq hf
  · rcases set_get h1 with ⟨_, hq, _⟩ | ⟨_, hq⟩
    · cases hq
    · rcases set_get h2 with ⟨_, hr, _⟩ | ⟨_, hr⟩
      · cases hr
      · exact S.inj j k q r b hq f1 hr f2 s1 s2
  · rcases set_get h with ⟨_, hq, _⟩ | ⟨_, hq⟩
    · cases hq
    · exact S.bo j pv hq
/-- a slot's own list is changed -/
theorem Sx.chg (S : Sx g G env σ F H) {i : Nat} {p p' : PV} {fl : Fl} {a : Addr} {o : HO} (e : env[i]? = some (some (p, fl))) (hf : fl ≠ .fz) (ea : σ[i]? = some (some (.ref a))) (ho : OwnR g F (upd H a o) p' a) : Sx g G (env.set i (some (p', fl))) σ F (upd H a o) := by
  obtain ⟨b, e1, e2, e3, e4, e5⟩ := S.own i p fl e hf
  rw [ea] at e1; cases e1
  refine ⟨fun b x q => ?_, S.f0, fun b x h1 h2 => ?_, S.nf, fun b x h1 => ?_, by simpa using S.len, fun j pv h => ?_, fun j pv f2 h hf2 => ?_, fun j k q r b h1 f1 h2 f2 s1 s2 => ?_, fun j pv h => ?_⟩
  · rw [upd_ne (ne_of_none q e2)]; exact S.sub b x q
  · have hb : b ≠ a := by
      rintro rfl
      rcases e4 with z | z
      · exact h2 z
      · rw [h1] at z; cases z
    rw [upd_ne hb]; exact S.h0 b x h1 h2
  · by_cases hb : b = a
    · subst hb; exact ⟨o, upd_same⟩
    · rw [upd_ne hb]; exact S.th b x h1
  · rcases set_get h with ⟨rfl, hq, hl⟩ | ⟨hj, hq⟩
    · cases hq; exact absurd rfl hf
    · exact S.fz j pv hq
  · rcases set_get h with ⟨rfl, hq, hl⟩ | ⟨hj, hq⟩
    · cases hq
      exact ⟨a, ea, e2, ho, e4, e5⟩
    · obtain ⟨b, k1, k2, k3, k4⟩ := S.own j pv f2 hq hf2
      have hb : b ≠ a := by
        rintro rfl
        exact hj (S.inj j i _ _ b hq hf2 e hf k1 ea)
      exact ⟨b, k1, k2, k3.mono (.refl _) fun x z => by rw [upd_ne hb]; exact z, k4⟩
  · rcases set_get h1 with ⟨rfl, hq, hl⟩ | ⟨hj, hq⟩
    · cases hq
      rcases set_get h2 with ⟨rfl, hr, hl⟩ | ⟨hk, hr⟩
      · rfl
      · exact S.inj _ _ _ _ b e hf hr f2 s1 s2
    · rcases set_get h2 with ⟨rfl, hr, hl⟩ | ⟨hk, hr⟩
      · cases hr; exact S.inj _ _ _ _ b hq f1 e hf s1 s2
      · exact S.inj j k q r b hq f1 hr f2 s1 s2
  · rcases set_get h with ⟨rfl, hq, hl⟩ | ⟨hj, hq⟩
    · cases hq; exact S.bo _ _ e
    · exact S.bo j pv hq
theorem lstAt_ok {i : Nat} {xs : List PV} {fl : Fl} (h : lstAt env i = some (xs, fl)) : env[i]? = some (some (.lst xs, fl)) ∧ fl ≠ .fz := by
  unfold lstAt at h
  split at h
  · rename_i h1; cases h; exact ⟨h1, by simp⟩
  · rename_i h1; cases h; exact ⟨h1, by simp⟩
  · cases h

/-! ### what a statement leaves -/
def VRr (g : Gx) (G : Ent) (F H : Hp) (r : PV × Fl) (v : V) : Prop :=
  match r.2 with
  | .fz => Rep g F r.1 v
  | .own => ∃ a, v = .ref a ∧ F a = none ∧ OwnR g F H r.1 a ∧ (G.Z a ∨ G.H a = none)
  | .bor => False
theorem VR.r {r : PV × Fl} {v : V} (h : VR g G env σ F H r v) : VRr g G F H r v := by
  obtain ⟨p, fl⟩ := r
  cases fl with
  | fz => exact h
  | own => obtain ⟨a, h1, h2, h3, h4, _⟩ := h; exact ⟨a, h1, h2, h3, .inr h4⟩
  | bor => exact h
def RS (g : Gx) (W : WX) (G : Ent) (D : Ends) : Fo → Prop
  | .nx e => ∀ σ F H, Sx g G e σ F H → D.nx σ H
  | .brk e => ∀ σ F H, Sx g G e σ F H → D.bk σ H
  | .cnt e => ∀ σ F H, Sx g G e σ F H → D.ct σ H
  | .ret r e => ∀ v σ F H, Sx g G e σ F H → VRr g G F H r v → D.rt v H
  | .exc x e => ∀ cls d σ F H, Sx g G e σ F H → XR g F H x cls d → W cls d σ H
  | .bad => False
def tS (g : Gx) (W : WX) (f : En → Fo) : TS := fun D σ H => ∃ G env F, Sx g G env σ F H ∧ RS g W G D (f env)
theorem RS.fo {α β : Type} {W : WX} {D : Ends} {F0 : Hp} {R : α → En → β → Hp → Hp → Prop} {m : Out α} {k : α → En → Fo} {Q : β → Hp → Prop} (h : RS g W G D (m.fo k))
    (f : ∀ a e b F H, Same F0 F → Sx g G e σ F H → R a e b F H → RS g W G D (k a e) → Q b H) : Rd g W G σ F0 R m Q := by
  cases m with
  | ok a e => exact fun b F H sm s r => f a e b F H sm s r h
  | exc x e => exact fun cls d F H sm s r => h cls d σ F H s r
  | bad => exact h
theorem Sx.gone (S : Sx g G env σ F H) {a : Addr} (h : H a = none) : G.H a = none := by
  cases w : G.H a with
  | none => rfl
  | some o => obtain ⟨o', e⟩ := S.th a o w; rw [h] at e; cases e
theorem RS.nar {W : WX} {D : Ends} {f : Fo} (S : Sx g G env σ F H) (h : RS g W G D f) : RS g W (nar env σ F H) D f := by
  cases f with
  | nx e => exact fun σ' F' H' s => h σ' F' H' (S.widen s)
  | brk e => exact fun σ' F' H' s => h σ' F' H' (S.widen s)
  | cnt e => exact fun σ' F' H' s => h σ' F' H' (S.widen s)
  | exc x e => exact fun c d σ' F' H' s => h c d σ' F' H' (S.widen s)
  | bad => exact h
  | ret r e =>
    refine fun v σ' F' H' s q => h v σ' F' H' (S.widen s) ?_
    obtain ⟨p, fl⟩ := r
    cases fl with
    | fz => exact q
    | bor => exact q
    | own =>
      obtain ⟨a, h1, h2, h3, h4⟩ := q
      refine ⟨a, h1, h2, h3, ?_⟩
      rcases h4 with ⟨i, p, k1, k2, k3⟩ | z
      · obtain ⟨b, e1, _, _, _, e5⟩ := S.own i p.1 p.2 k1 (by rw [k2]; simp)
        rw [k3] at e1; cases e1
        exact e5 k2
      · exact .inr (S.gone z)
theorem RS.turn {W : WX} {D : Ends} {k : En → Fo} {f : Fo} {Nx : L2.St → Hp → Prop} (h : RS g W G D (turnK k f)) (hn : ∀ e σ F H, Sx g G e σ F H → RS g W G D (k e) → Nx σ H) : RS g W G { D with nx := Nx, ct := Nx, bk := D.nx } f := by
  cases f with
  | nx e => exact fun σ F H s => hn e σ F H s h
  | cnt e => exact fun σ F H s => hn e σ F H s h
  | _ => exact h
end
theorem _root_.L2.PS.imp {X : Cx} {st : Stmt} {t t' : TS} (h : PS X st t) (k : ∀ D σ H, t' D σ H → t D σ H) : PS X st t' := ⟨fun pins s σ H D I q => h.run pins s σ H D I (k D σ H q)⟩
theorem _root_.L2.PSs.imp {X : Cx} {st : List Stmt} {t t' : TS} (h : PSs X st t) (k : ∀ D σ H, t' D σ H → t D σ H) : PSs X st t' := ⟨fun pins s σ H D I q => h.run pins s σ H D I (k D σ H q)⟩
theorem _root_.L2.PS.or {X : Cx} {st : Stmt} {t t' : TS} (h : PS X st t) (h' : PS X st t') : PS X st (fun D σ H => t D σ H ∨ t' D σ H) := ⟨fun pins s σ H D I q => q.elim (h.run pins s σ H D I) (h'.run pins s σ H D I)⟩
theorem sole_plain {v : Expr} (h : isLC v = false) (t : Expr) (l : Nat) (env : Env) : swapsWithSole [t] v l env = pure false := by
  show swapsWith v (some t) l env = _
  cases v <;> first | rfl | cases h
theorem swaps_plain {v : Expr} (h : isLC v = false) (t : Option Expr) (l : Nat) (env : Env) : swapsWith v t l env = pure false := by
  cases v <;> first | rfl | cases h
section
variable {X : Cx} {C : Cal} {W : WX} {N : List Str} {sc : Scope}
theorem snd_e {a : IE} {e : Expr} (K : Cok X C W N sc) (h : chkE N a sc e = true) : CE X C W a e := (snd_all (sizeOf a + 1)).1 a (by omega) N sc e h X C W K
theorem snd_a {a : IE} {es : List Expr} (K : Cok X C W N sc) (h : chkA N a sc es = true) : ArgsOk X C W a es := (snd_all (sizeOf a + 1)).2 a (by omega) N sc es h X C W K
theorem snd_i {it : IE} {tg iter : Expr} (K : Cok X C W N sc) (h : chkI N it sc tg iter = true) : PI X tg iter (tI (gx X) W (evIt C it)) := ci_all K h fun a e ha _ => snd_e K ha

/-- what a def's body asks, beyond the expressions' -/
structure Sok (X : Cx) (C : Cal) (W : WX) (N : List Str) (sc : Scope) : Prop extends Cok X C W N sc where
  kind : sc.kind = .function
  fn : ∀ x, X.fn x = true
  pass : PassesOwn (model X.prog X.w) X.A X.env X.xe

theorem ss_asg0 (K : Sok X C W N sc) {i : Nat} {x : Str} {a : IE} {v : Expr} {p pos : Pos} (hN : N[i]? = some x) (hl : locB sc (fun _ => true) x = true) (hv : isLC v = false) (ha : CE X C W a v) : PS X (.Assign [.Name x p] v pos) (tS (gx X) W (exec C (.asg i a))) := by
  obtain ⟨l1, l2⟩ := locB_ok K.toCok (fun x _ => K.fn x) hl
  refine (ps_set (i := i) (by rw [K.hN]; exact K.nd) (by rw [K.hN]; exact hN) l1 ha.1 (swaps_plain hv _ _ _) l2).imp fun D σ H q => ?_
  obtain ⟨G, env, F, S, r⟩ := q
  exact ⟨G, env, F, S, RS.fo r fun r e1 v F1 H1 sm S1 h1 q1 => q1 _ F1 H1 (S1.setV h1)⟩
theorem ss_asgL (K : Sok X C W N sc) {i : Nat} {x : Str} {a : IE} {v : Expr} {p pos : Pos} (hN : N[i]? = some x) (hl : locB sc (fun _ => true) x = true) (hv : swapLC sc x p v = true) (hc : chkE N a sc v = true) : PS X (.Assign [.Name x p] v pos) (tS (gx X) W (exec C (.asg i a))) := by
  cases v <;> try (cases hv; done)
  rename_i e gens scope lpos
  cases a <;> try (cases hc; done)
  rename_i own g it cond elt
  match gens, hc with
  | [⟨tg, iter, ifs, ay⟩], hc =>
    obtain ⟨c1, h8⟩ := band hc
    obtain ⟨c2, h7⟩ := band c1
    obtain ⟨c3, h6⟩ := band c2
    obtain ⟨c4, h5⟩ := band c3
    obtain ⟨c5, h4⟩ := band c4
    obtain ⟨c6, h3⟩ := band c5
    obtain ⟨c7, h2⟩ := band c6
    obtain ⟨h0, h1⟩ := band c7
    have h0' : ay = 0 := of_decide_eq_true h0
    subst h0'
    have hI : chkI N it sc tg iter = true := h1
    have ho : (ownOf N own).map (·.2) = own := of_decide_eq_true h3
    obtain ⟨v12, v3⟩ := band hv
    obtain ⟨v1, v2⟩ := band v12
    have hloc : sc.names.lookup x = some .local := by
      split at v1
      · assumption
      · cases v1
    have K' := K.toCok
    have hs' : ∀ x, foldedSetIterable iter X.env x = pure x := fun x => by
      have h8' := nott h8
      cases iter <;> first | rfl | cases h8'
    have te : ∀ (s : Shared) (H : Hp) (D : Addr) (cl : List (Str × Addr)) (fp : List Addr), PE (X.blk s H scope (compEnvC scope cl D X.env) fp) e (tE (gx X) W0 (ev C elt).1) := fun s H D cl fp => (snd_e (K'.blk s H scope cl D fp) h7).1
    have tt : ∀ (s : Shared) (H : Hp) (D : Addr) (cl : List (Str × Addr)) (fp : List Addr), PTs (X.blk s H scope (compEnvC scope cl D X.env) fp) ifs (tT (gx X) W0 (ev C cond).2) := fun s H D cl fp => pts_of (K'.blk s H scope cl D fp) h6 fun e he => snd_e (K'.blk s H scope cl D fp) he
    have tg' : ∀ (s : Shared) (H : Hp) (D : Addr) (cl : List (Str × Addr)) (fp : List Addr), PG (X.blk s H scope (compEnvC scope cl D X.env) fp) tg (tGt (gx X) g) := fun s H D cl fp => cg_ok (K'.blk s H scope cl D fp) (fun x hx => hx) h5
    refine (ps_setLc (i := i) (own := ownOf N own) K.calm (by rw [K.hN]; exact K.nd) (by rw [K.hN]; exact hN) (by rw [K.hsc]; exact hloc) (sw_true (by rw [K.hsc]; exact K.kind) (by rw [K.hsc]; exact hloc) v2 (nott v3)) (snd_i K' hI) (blkOk_by (by rw [K.hN, K.hsc]; exact h2))
      tg' tt te hs').imp fun D σ H q => ?_
    rw [ho]
    obtain ⟨G, env, F, S, r⟩ := q
    refine lc_imp (subSet_ok h4) σ H _ ⟨G, env, F, S, RS.fo r fun r e1 v F1 H1 sm S1 h1 q1 => q1 _ F1 H1 (S1.setV h1)⟩
theorem ss_unp (K : Sok X C W N sc) {is : List Nat} {ts : List Expr} {a : IE} {v : Expr} {k : Nat} {p pos : Pos} (hn : chkNames N sc (fun _ => true) is ts = true) (hw : swapOf sc ts v = some none) (hv : isLC v = false) (ha : CE X C W a v) : PS X (.Assign [.Tuple ts k p] v pos) (tS (gx X) W (exec C (.unp is a))) := by
  have pg : PG X (.Tuple ts k p) (tGt (gx X) (.tup is)) := cg_ok K.toCok (fnb := fun _ => true) (fun x _ => K.fn x) (ig := .tup is) hn
  refine (ps_asg ha.1 pg (sole_plain hv _ _ _) (swap_eq K.hsc K.kind hw)).imp fun D σ H q => ?_
  obtain ⟨G, env, F, S, r⟩ := q
  refine ⟨G, env, F, S, RS.fo r fun r e1 v F1 H1 sm S1 h1 q1 => ?_⟩
  obtain ⟨F2, S2, r2, sm2⟩ := S1.fix h1
  split at q1
  · rename_i e2 he
    exact ⟨G, e1, F2, _, e2, S2, r2, he, fun σ' S' _ _ => q1 σ' F2 H1 S'⟩
  · exact q1.elim
theorem ss_par2 (K : Sok X C W N sc) {i j : Nat} {x y : Str} {a b : Expr} {es : IE} {px py pt pos : Pos} {kt k2 : Nat} {p2 : Pos} (hi : N[i]? = some x) (hj : N[j]? = some y) (hij : i ≠ j) (hx : sc.names.lookup x = some .local) (hy : sc.names.lookup y = some .local)
    (hw : swapOf sc [.Name x px, .Name y py] (.Tuple [a, b] k2 p2) = some (some [x, y])) (ha : PA X [a, b] (tF (gx X) W (evF C es))) : PS X (.Assign [.Tuple [.Name x px, .Name y py] kt pt] (.Tuple [a, b] k2 p2) pos) (tS (gx X) W (exec C (.par [i, j] es))) := by
  refine (ps_par (i := i) (j := j) K.calm (by rw [K.hN]; exact K.nd) (by rw [K.hN]; exact hi) (by rw [K.hN]; exact hj) hij (by rw [K.hsc]; exact hx) (by rw [K.hsc]; exact hy) ha (swap_eq K.hsc K.kind hw)).imp fun D σ H q => ?_
  obtain ⟨G, env, F, S, r⟩ := q
  refine ⟨G, env, F, S, RS.fo r fun ps e1 vs F1 H1 sm S1 h1 q1 => ?_⟩
  split at q1
  · rename_i hl
    match ps, hl with
    | [p, q], _ =>
      obtain ⟨v, vr, rfl, r1, w, wr, rfl, r2, rfl⟩ := h1
      exact ⟨v, w, rfl, q1 _ F1 H1 ((S1.setFz r1).setFz r2)⟩
  · exact q1.elim
theorem ss_par3 (K : Sok X C W N sc) {i j l : Nat} {x y z : Str} {a b c : Expr} {es : IE} {px py pz pt pos : Pos} {kt k2 : Nat} {p2 : Pos} (hi : N[i]? = some x) (hj : N[j]? = some y) (hl : N[l]? = some z) (hij : i ≠ j) (hil : i ≠ l) (hjl : j ≠ l) (hx : sc.names.lookup x = some .local) (hy : sc.names.lookup y = some .local) (hz : sc.names.lookup z = some .local)
    (hw : swapOf sc [.Name x px, .Name y py, .Name z pz] (.Tuple [a, b, c] k2 p2) = some (some [x, y, z])) (ha : PA X [a, b, c] (tF (gx X) W (evF C es))) : PS X (.Assign [.Tuple [.Name x px, .Name y py, .Name z pz] kt pt] (.Tuple [a, b, c] k2 p2) pos) (tS (gx X) W (exec C (.par [i, j, l] es))) := by
  refine (ps_par3 (i := i) (j := j) (l := l) K.calm (by rw [K.hN]; exact K.nd) (by rw [K.hN]; exact hi) (by rw [K.hN]; exact hj) (by rw [K.hN]; exact hl) hij hil hjl (by rw [K.hsc]; exact hx) (by rw [K.hsc]; exact hy) (by rw [K.hsc]; exact hz) ha (swap_eq K.hsc K.kind hw)).imp fun D σ H q => ?_
  obtain ⟨G, env, F, S, r⟩ := q
  refine ⟨G, env, F, S, RS.fo r fun ps e1 vs F1 H1 sm S1 h1 q1 => ?_⟩
  split at q1
  · rename_i hl
    match ps, hl with
    | [p, q, o], _ =>
      obtain ⟨v, vr, rfl, r1, w, wr, rfl, r2, u, ur, rfl, r3, rfl⟩ := h1
      exact ⟨v, w, u, rfl, q1 _ F1 H1 (((S1.setFz r1).setFz r2).setFz r3)⟩
  · exact q1.elim
theorem ss_seti (K : Sok X C W N sc) {i : Nat} {x : Str} {ix a : IE} {j v : Expr} {px p pos : Pos} (hN : N[i]? = some x) (hv : visB sc x = true) (hj : PE X j (tO (gx X) W (opd ix (ev C ix).1))) (hs : isSliceX j = false) (ha : CE X C W a v) (hlc : isLC v = false) :
    PS X (.Assign [.Subscript (.Name x px) j p] v pos) (tS (gx X) W (exec C (.seti i ix a))) := by
  obtain ⟨v1, v2, v3⟩ := K.vis hv
  have pv : PE X (.Name x px) (tVar i) := pe_var (by rw [K.hN]; exact hN) v1 v2 v3
  have pg : PG X (.Subscript (.Name x px) j p) (gSub (tVar i) (tO (gx X) W (opd ix (ev C ix).1)) rSetL) := pg_sub pv hj set_list (by cases j <;> first | (intro _; rfl; done) | (cases hs; done))
  have hsw : swappedStores [.Subscript (.Name x px) j p] v X.env = pure none := by unfold swappedStores; rfl
  refine (ps_asg ha.1 pg (sole_plain hlc _ _ _) hsw).imp fun D σ H q => ?_
  obtain ⟨G, env, F, S, r⟩ := q
  refine ⟨G, env, F, S, RS.fo r fun r e1 v F1 H1 sm S1 h1 q1 => ?_⟩
  obtain ⟨F2, S2, r2, sm2⟩ := S1.fix h1
  split at q1
  case isFalse => exact q1.elim
  rename_i hls
  obtain ⟨⟨xs, fl⟩, hls⟩ := Option.isSome_iff_exists.mp hls
  obtain ⟨l1, l2⟩ := lstAt_ok hls
  obtain ⟨c, k1, _⟩ := S2.own i _ fl l1 l2
  refine ⟨.ref c, k1, G, e1, F2, S2, RS.fo q1 fun o e2 u F3 H3 sm3 S3 h3 q3 => ?_⟩
  unfold setItemE at q3
  split at q3
  · exact q3.elim
  rename_i ys fl2 hls2
  obtain ⟨m1, m2⟩ := lstAt_ok hls2
  split at q3
  case h_2 => exact q3.elim
  rename_i kk hkk
  split at q3
  case h_2 => exact q3.elim
  rename_i jj hjj
  have hu := S3.rs hkk h3
  obtain ⟨d, n1, n2, ⟨ws, n3, n4⟩, _⟩ := S3.own i _ fl2 m1 m2
  rw [k1] at n1; cases n1
  have hu' : u = .int kk := hu
  subst hu'
  refine ⟨c, ws, kk, jj, rfl, rfl, n3, by rw [n4.length]; exact hjj, q3 σ F3 _ (S3.chg m1 m2 k1 ⟨ws.set jj v, upd_same, n4.set jj (r2.mono sm3)⟩)⟩
theorem ss_app (K : Sok X C W N sc) {i : Nat} {x m : Str} {a : IE} {v : Expr} {px ap cp pos : Pos} (hm : m = "append") (hN : N[i]? = some x) (hv : visB sc x = true) (hs : isStar v = false) (hl : (ap.endLine == cp.line) = true) (ha : CE X C W a v) :
    PS X (.Expr (.Call (.Attribute (.Name x px) m ap) [v] [] cp) pos) (tS (gx X) W (exec C (.app i a))) := by
  subst hm
  obtain ⟨v1, v2, v3⟩ := K.vis hv
  have pv : PE X (.Name x px) (tVar i) := pe_var (by rw [K.hN]; exact hN) v1 v2 v3
  have st := star_cons X.env (e := v) [] hs
  have pa : PA X [v] (tCons (tE (gx X) W (ev C a).1) tNil) := pa_cons ha.1 pa_nil st
  have hfew : ((backTo cp (starEach [v] X.env)).all (fun x => !x.1) && (backToKw cp (keywordEach [] X.env)).all (fun x => x.1.isSome) && decide ([v].length + ([] : List Keyword).length + (if ([] : List Keyword).isEmpty then 0 else 1) < 30)) = true := by
    rw [st]; rfl
  refine (ps_expr (pe_bm F.plainAttrs_list F.slot_list_append F.type_list_append mt_append pv pa rfl hfew hl st rfl)).imp fun D σ H q => ?_
  obtain ⟨G, env, F, S, r⟩ := q
  have r' : RS (gx X) W G D (if (lstAt env i).isSome then ((ev C a).1 env).fo fun r e1 => appE i r.1 e1 else .bad) := r
  split at r'
  case isFalse => exact r'.elim
  rename_i hls
  obtain ⟨⟨xs, fl⟩, hls⟩ := Option.isSome_iff_exists.mp hls
  obtain ⟨l1, l2⟩ := lstAt_ok hls
  obtain ⟨c, k1, _, ⟨vs, k3, _⟩, _⟩ := S.own i _ fl l1 l2
  refine ⟨.ref c, k1, .inl ⟨rfl, vs, .inl (.inl k3)⟩, G, env, F, S, RS.fo r' fun o e1 u F1 H1 sm S1 h1 q1 => ?_⟩
  obtain ⟨F2, S2, r2, sm2⟩ := S1.fix h1
  unfold appE at q1
  split at q1
  · exact q1.elim
  rename_i ys fl2 hls2
  obtain ⟨m1, m2⟩ := lstAt_ok hls2
  split at q1
  case isFalse => exact q1.elim
  rename_i hlen
  obtain ⟨d, n1, n2, ⟨ws, n3, n4⟩, _⟩ := S2.own i _ fl2 m1 m2
  rw [k1] at n1; cases n1
  exact ⟨c, ws, u, rfl, rfl, n3, by rw [n4.length]; exact hlen, q1 σ F2 _ (S2.chg m1 m2 k1 ⟨ws ++ [u], upd_same, n4.snoc r2⟩)⟩
theorem ss_expr (K : Sok X C W N sc) {a : IE} {v : Expr} {pos : Pos} (hv : isLC v = false) (ha : CE X C W a v) : PS X (.Expr v pos) (tS (gx X) W (exec C (.expr a))) := by
  refine (ps_expr ha.1 (swaps_plain hv _ _ _)).imp fun D σ H q => ?_
  obtain ⟨G, env, F, S, r⟩ := q
  exact ⟨G, env, F, S, RS.fo r fun r e1 v F1 H1 sm S1 h1 q1 => q1 σ F1 H1 S1⟩
theorem ss_ret0 {a : IE} {v : Expr} {pos : Pos} (ha : CE X C W a v) : PS X (.Return (some v) pos) (tS (gx X) W fun e => ((ev C a).1 e).fo fun r e1 => .ret r e1) := by
  refine (ps_ret ha.1).imp fun D σ H q => ?_
  obtain ⟨G, env, F, S, r⟩ := q
  exact ⟨G, env, F, S, RS.fo r fun r e1 v F1 H1 sm S1 h1 q1 => q1 v σ F1 H1 S1 h1.r⟩
theorem ss_ret (K : Sok X C W N sc) {a : IE} {v : Expr} {pos : Pos} (hc : chkE N a sc v = true) (ha : CE X C W a v) : PS X (.Return (some v) pos) (tS (gx X) W (exec C (.ret a))) := by
  by_cases hi : ∃ i, a = .var i
  · obtain ⟨i, rfl⟩ := hi
    cases v <;> try (cases hc; done)
    rename_i x px
    obtain ⟨h1, h2⟩ := band (show (decide (N[i]? = some x) && visB sc x) = true from hc)
    obtain ⟨v1, v2, v3⟩ := K.vis h2
    have pv : PE X (.Name x px) (tVar i) := pe_var (by rw [K.hN]; exact of_decide_eq_true h1) v1 v2 v3
    refine ((ps_ret pv).or (ss_ret0 ha)).imp fun D σ H q => ?_
    obtain ⟨G, env, F, S, r⟩ := q
    have r' : RS (gx X) W G D (match env[i]? with
      | some (some (p, .own)) => .ret (p, .own) (env.set i none)
      | _ => ((ev C (.var i)).1 env).fo fun r e1 => .ret r e1) := r
    split at r'
    · rename_i p hp
      obtain ⟨c, k1, k2, k3, k4, k5⟩ := S.own i _ _ hp (by simp)
      exact .inl ⟨.ref c, k1, r' _ σ F H (S.forget i) ⟨c, rfl, k2, k3, k5 rfl⟩⟩
    · exact .inr ⟨G, env, F, S, r'⟩
  · have e : exec C (.ret a) = fun e => ((ev C a).1 e).fo fun r e1 => .ret r e1 := by
      cases a <;> first | rfl | exact absurd ⟨_, rfl⟩ hi
    rw [e]
    exact ss_ret0 ha
theorem ss_if {c : IE} {a b : IS} {t : Expr} {x y : List Stmt} {pos : Pos} (hc : CE X C W c t) (ha : PSs X x (tS (gx X) W (exec C a))) (hb : PSs X y (tS (gx X) W (exec C b))) : PS X (.If t x y pos) (tS (gx X) W (exec C (.ife c a b))) := by
  refine (ps_if hc.2 ha hb).imp fun D σ H q => ?_
  obtain ⟨G, env, F, S, r⟩ := q
  refine ⟨G, env, F, S, RS.fo r fun k e1 k' F1 H1 sm S1 h1 q1 => ?_⟩
  have h1' : k' = k := h1
  subst h1'
  cases k' with
  | true => rw [if_pos rfl]; exact ⟨G, e1, F1, S1, q1⟩
  | false => rw [if_neg (by simp)]; exact ⟨G, e1, F1, S1, q1⟩
theorem ss_while (K : Sok X C W N sc) {n : Nat} {c : IE} {b : IS} {t : Expr} {body : List Stmt} {pos : Pos} (hc : CE X C W c t) (hb : PSs X body (tS (gx X) W (exec C b))) : PS X (.While t body [] pos) (tS (gx X) W (exec C (.whl n c b))) := by
  refine (ps_while K.pass hc.2 hb).imp fun D σ H q => ?_
  obtain ⟨G, env, F, S, r⟩ := q
  refine ⟨fun m σ H => ∃ e F, Sx (gx X) G e σ F H ∧ RS (gx X) W G D (whileLoop (ev C c).2 (exec C b) m e), ⟨n, env, F, S, r⟩, ?_⟩
  rintro m σ1 H1 ⟨e, F1, S1, r1⟩
  cases m with
  | zero => exact r1.elim
  | succ m =>
    refine ⟨G, e, F1, S1, RS.fo (show RS (gx X) W G D (((ev C c).2 e).fo fun k e1 => if k then turnK (whileLoop (ev C c).2 (exec C b) m) (exec C b e1) else .nx e1) from r1) fun k e2 k' F2 H2 sm S2 h2 q2 => ?_⟩
    have h2' : k' = k := h2
    subst h2'
    cases k' with
    | true =>
      rw [if_pos rfl]
      refine ⟨fun σ H => ∃ e F, Sx (gx X) G e σ F H ∧ RS (gx X) W G D (whileLoop (ev C c).2 (exec C b) m e), fun σ' H' h => ⟨m, by omega, h⟩, G, e2, F2, S2, ?_⟩
      exact RS.turn q2 fun e σ F H s r => ⟨e, F, s, r⟩
    | false => rw [if_neg (by simp)]; exact q2 σ1 F2 H2 S2
theorem ss_for (K : Sok X C W N sc) {ig : IG} {it : IE} {b : IS} {tg iter : Expr} {body : List Stmt} {pos : Pos} (hi : PI X tg iter (tI (gx X) W (evIt C it))) (hg : PG X tg (tGt (gx X) ig)) (hs : isSetX iter = false) (hb : PSs X body (tS (gx X) W (exec C b))) :
    PS X (.For tg iter body [] pos) (tS (gx X) W (exec C (.loop ig it b))) := by
  have hs' : ∀ x, foldedSetIterable iter X.env x = pure x := fun x => by cases iter <;> first | rfl | cases hs
  refine (ps_for K.pass K.calm hi hg hb hs').imp fun D σ H q => ?_
  obtain ⟨G, env, F, S, r⟩ := q
  refine ⟨G, env, F, S, RS.fo r fun xs e1 J F1 H1 sm1 S1 h1 q1 => ?_⟩
  have q1' := RS.nar S1 q1
  generalize hG : nar e1 σ F1 H1 = G1 at q1'
  have S1n : Sx (gx X) G1 e1 σ F1 H1 := by rw [← hG]; exact S1.narrow
  have f1 : G1.F = F1 := by rw [← hG]; rfl
  let Iv : Nat → L2.St → Hp → Prop := fun i σ H => ∃ e F, Sx (gx X) G1 e σ F H ∧ RS (gx X) W G1 D (forLoop ig (exec C b) (xs.drop i) e)
  refine ⟨fun i m σ H => m = xs.length - i ∧ i ≤ xs.length ∧ Iv i σ H, ⟨xs.length, by simp, Nat.zero_le _, e1, F1, S1n, by simpa using q1'⟩, ?_⟩
  rintro i m σ3 H3 ⟨rfl, hle, e, F3, S3, q3⟩
  have sm3 : Same F1 F3 := by rw [← f1]; exact S3.f0
  by_cases hlt : i < xs.length
  · have hx : xs[i]? = some xs[i] := List.getElem?_eq_getElem hlt
    obtain ⟨hgo, hyl⟩ := (h1 F3 H3 sm3 S3.sub).1 i _ hx
    rw [List.drop_eq_getElem_cons hlt] at q3
    refine .inr ⟨hgo, Iv (i + 1), fun σ' H' hI => ⟨xs.length - (i + 1), by omega, rfl, hlt, hI⟩, fun x H' hx' => ?_⟩
    obtain ⟨F4, n4, r4⟩ := hyl x H' hx'
    have S4 := S3.grow n4.sF n4.sH n4.sub n4.nf
    have q3' : RS (gx X) W G1 D (match setG ig xs[i] e with
      | none => .bad
      | some e1 => turnK (forLoop ig (exec C b) (xs.drop (i + 1))) (exec C b e1)) := q3
    split at q3'
    · exact q3'.elim
    · rename_i e5 hset
      refine ⟨G1, e, F4, _, e5, S4, r4, hset, fun σ2 S5 hl2 hj2 => ⟨G1, e5, F4, S5, ?_⟩⟩
      exact RS.turn q3' fun e σ F H s r => ⟨e, F, s, r⟩
  · have hi' : i = xs.length := by omega
    subst hi'
    rw [List.drop_length] at q3
    exact .inl ⟨(h1 F3 H3 sm3 S3.sub).2, q3 σ3 F3 H3 S3⟩
theorem ss_seq {a b : IS} {st : Stmt} {sts : List Stmt} (ha : PS X st (tS (gx X) W (exec C a))) (hb : PSs X sts (tS (gx X) W (exec C b))) : PSs X (st :: sts) (tS (gx X) W (exec C (.seq a b))) := by
  refine (pss_cons ha hb).imp fun D σ H q => ?_
  obtain ⟨G, env, F, S, r⟩ := q
  refine ⟨G, env, F, S, ?_⟩
  have r' : RS (gx X) W G D ((exec C a env).andThen (exec C b)) := r
  cases h : exec C a env with
  | nx e =>
    rw [h] at r'
    exact fun σ1 F1 H1 S1 => ⟨G, e, F1, S1, r'⟩
  | _ => rw [h] at r'; exact r'
/-- statements -/
theorem snd_s (K : Sok X C W N sc) : ∀ (n : Nat) (a : IS), sizeOf a < n → ∀ sts, chkS N sc a sts = true → PSs X sts (tS (gx X) W (exec C a)) := by
  have K' := K.toCok
  intro n
  induction n with
  | zero => intro a h; omega
  | succ n ih =>
    intro a hn sts hc
    cases a <;> try (cases sts <;> cases hc; done)
    · -- nil
      cases sts <;> try (cases hc; done)
      exact pss_nil.imp fun D σ H q => by
        obtain ⟨G, env, F, S, r⟩ := q
        exact r σ F H S
    · rename_i a b
      cases sts <;> try (cases hc; done)
      rename_i st sts
      obtain ⟨hb, ha⟩ := band hc
      refine ss_seq ?_ (ih b (by simp at hn; omega) sts hb)
      cases a <;> try (cases ha; done)
      case asg i e =>
        cases st <;> try (cases ha; done)
        rename_i tgs v pos
        match tgs, ha with
        | [.Name x p], ha =>
          obtain ⟨h123, h4⟩ := band ha
          obtain ⟨h12, h3⟩ := band h123
          obtain ⟨h1, h2⟩ := band h12
          cases hl : isLC v with
          | false => exact ss_asg0 K (of_decide_eq_true h1) h2 hl (snd_e K' h3)
          | true =>
            rw [hl] at h4
            exact ss_asgL K (of_decide_eq_true h1) h2 h4 h3
      case unp is e =>
        cases st <;> try (cases ha; done)
        rename_i tgs v pos
        match tgs, ha with
        | [.Tuple ts k p], ha =>
          obtain ⟨h123, h4⟩ := band ha
          obtain ⟨h12, h3⟩ := band h123
          obtain ⟨h1, h2⟩ := band h12
          exact ss_unp K h1 (of_decide_eq_true h3) (nott h4) (snd_e K' h2)
      case par is es =>
        have ha' : chkPar N sc is es st = true := ha
        clear ha
        unfold chkPar at ha'
        split at ha'
        case h_1 =>
          rename_i x px y py a b k2 p2 hp
          obtain ⟨kt, pt, pos, rfl⟩ := parOf_two hp
          split at ha'
          case h_2 => cases ha'
          rename_i i j
          have ha := ha'
          obtain ⟨h6, h7⟩ := band ha
          obtain ⟨h5, h6⟩ := band h6
          obtain ⟨h4, h5⟩ := band h5
          obtain ⟨h3, h4⟩ := band h4
          obtain ⟨h2, h3⟩ := band h3
          obtain ⟨h1, h2⟩ := band h2
          exact ss_par2 K (of_decide_eq_true h2) (of_decide_eq_true h3) (of_decide_eq_true h4) (of_decide_eq_true h5) (of_decide_eq_true h6) (of_decide_eq_true h1) (snd_a K' h7).f
        case h_2 =>
          rename_i x px y py z pz a b c k2 p2 hp
          obtain ⟨kt, pt, pos, rfl⟩ := parOf_thr hp
          split at ha'
          case h_2 => cases ha'
          rename_i i j l
          have ha := ha'
          obtain ⟨h10, h11⟩ := band ha
          obtain ⟨h9, h10⟩ := band h10
          obtain ⟨h8, h9⟩ := band h9
          obtain ⟨h7, h8⟩ := band h8
          obtain ⟨h6, h7⟩ := band h7
          obtain ⟨h5, h6⟩ := band h6
          obtain ⟨h4, h5⟩ := band h5
          obtain ⟨h3, h4⟩ := band h4
          obtain ⟨h2, h3⟩ := band h3
          obtain ⟨h1, h2⟩ := band h2
          exact ss_par3 K (of_decide_eq_true h2) (of_decide_eq_true h3) (of_decide_eq_true h4) (of_decide_eq_true h5) (of_decide_eq_true h6) (of_decide_eq_true h7) (of_decide_eq_true h8) (of_decide_eq_true h9) (of_decide_eq_true h10) (of_decide_eq_true h1) (snd_a K' h11).f
        case h_3 => cases ha'
      case seti i ix e =>
        cases st <;> try (cases ha; done)
        rename_i tgs v pos
        match tgs, ha with
        | [.Subscript (.Name x p) j sp], ha =>
          obtain ⟨h5, h6⟩ := band ha
          obtain ⟨h4, h5⟩ := band h5
          obtain ⟨h3, h4⟩ := band h4
          obtain ⟨h2, h3⟩ := band h3
          obtain ⟨h1, h2⟩ := band h2
          exact ss_seti K (of_decide_eq_true h1) h2 (ce_opd K' h3 (snd_e K' h3)) (nott h4) (snd_e K' h5) (nott h6)
      case app i e =>
        cases st <;> try (cases ha; done)
        rename_i v pos
        match v, ha with
        | .Call (.Attribute (.Name x p) m ap) [v] [] cp, ha =>
          obtain ⟨h5, h6⟩ := band ha
          obtain ⟨h4, h5⟩ := band h5
          obtain ⟨h3, h4⟩ := band h4
          obtain ⟨h2, h3⟩ := band h3
          obtain ⟨h1, h2⟩ := band h2
          exact ss_app K (of_decide_eq_true h1) (of_decide_eq_true h2) h3 (nott h5) h6 (snd_e K' h4)
      case expr e =>
        cases st <;> try (cases ha; done)
        obtain ⟨h1, h2⟩ := band ha
        exact ss_expr K (nott h2) (snd_e K' h1)
      case ret e =>
        cases st <;> try (cases ha; done)
        rename_i v pos
        cases v <;> try (cases ha; done)
        exact ss_ret K ha (snd_e K' ha)
      case retN =>
        cases st <;> try (cases ha; done)
        rename_i v pos
        cases v <;> try (cases ha; done)
        exact ps_retN.imp fun D σ H q => by
          obtain ⟨G, env, F, S, r⟩ := q
          exact r _ σ F H S rfl
      case ife c a b =>
        cases st <;> try (cases ha; done)
        obtain ⟨h12, h3⟩ := band ha
        obtain ⟨h1, h2⟩ := band h12
        exact ss_if (snd_e K' h1) (ih a (by simp at hn; omega) _ h2) (ih b (by simp at hn; omega) _ h3)
      case loop g it b =>
        cases st <;> try (cases ha; done)
        rename_i tg iter body orelse pos
        match orelse, ha with
        | [], ha =>
          obtain ⟨h123, h4⟩ := band ha
          obtain ⟨h12, h3⟩ := band h123
          obtain ⟨h1, h2⟩ := band h12
          exact ss_for K (snd_i K' h1) (cg_ok K' (fnb := fun _ => true) (fun x _ => K.fn x) h2) (nott h4) (ih b (by simp at hn; omega) _ h3)
      case whl m c b =>
        cases st <;> try (cases ha; done)
        rename_i t body orelse pos
        match orelse, ha with
        | [], ha =>
          obtain ⟨h1, h2⟩ := band ha
          exact ss_while K (snd_e K' h1) (ih b (by simp at hn; omega) _ h2)
      case brk =>
        cases st <;> try (cases ha; done)
        exact ps_break.imp fun D σ H q => by
          obtain ⟨G, env, F, S, r⟩ := q
          exact r σ F H S
      case cnt =>
        cases st <;> try (cases ha; done)
        exact ps_continue.imp fun D σ H q => by
          obtain ⟨G, env, F, S, r⟩ := q
          exact r σ F H S
      case pass =>
        cases st <;> try (cases ha; done)
        exact ps_pass.imp fun D σ H q => by
          obtain ⟨G, env, F, S, r⟩ := q
          exact r σ F H S
end
end Bd

namespace Bd
open PySem L2
/-! ### functions -/
structure FD where
  N : List Str
  sg : List Bool
  body : IS
  kw : List (Nat × List Str × List Nat) := []
def parE : List Bool → List PV → En
  | m :: ms, p :: ps => some (p, if m then .bor else .fz) :: parE ms ps
  | _, _ => []
def startE (d : FD) (ps : List PV) : En := parE d.sg ps ++ List.replicate (d.N.length - ps.length) none
def outsOf : List Bool → En → Option (List PV)
  | [], _ => some []
  | true :: ms, some (p, .bor) :: e => (outsOf ms e).map (p :: ·)
  | false :: ms, _ :: e => outsOf ms e
  | _, _ => none
def cres (o : Option (List PV)) (k : List PV → CRes) : CRes := match o with
  | some o => k o
  | none => .bad
def finish (ms : List Bool) : Fo → CRes
  | .nx e => cres (outsOf ms e) fun o => .ok (.non, .fz) o
  | .ret r e => cres (outsOf ms e) fun o => .ok r o
  | .exc x e => cres (outsOf ms e) fun o => .exc x o
  | _ => .bad
def runF (C : Cal) (d : Option FD) (ps : List PV) : CRes := match d with
  | some d => finish d.sg (exec C d.body (startE d ps))
  | none => .bad
def kwOf (l : List (Nat × List Str × List Nat)) (n : Nat) (ks : List Str) : Option (List Nat) := (l.find? fun x => x.1 == n && x.2.1 == ks).map (·.2.2)
def calN (cst : Str → Option PV) (T : Str → Option FD) : Nat → Cal
  | 0 => ⟨cst, fun _ => none, fun _ _ => .bad, fun _ _ _ => none⟩
  | n + 1 => ⟨cst, fun f => (T f).map (·.sg), fun f ps => runF (calN cst T n) (T f) ps, fun f n ks => (T f).bind fun d => kwOf d.kw n ks⟩

section
variable {g : Gx} {F H : Hp}
theorem AR.len : ∀ {ms : List Bool} {ps : List PV} {vs : List V}, AR g F H ms ps vs → ps.length = ms.length ∧ vs.length = ms.length
  | [], _, _, h => by obtain ⟨rfl, rfl⟩ := h; exact ⟨rfl, rfl⟩
  | m :: ms, _, _, h => by
    obtain ⟨p, ps', v, vs', rfl, rfl, _, h⟩ := h
    obtain ⟨h1, h2⟩ := AR.len h
    simp [h1, h2]
theorem parE_get : ∀ {ms : List Bool} {ps : List PV} {vs : List V} {i : Nat} {p : PV} {fl : Fl}, AR g F H ms ps vs → (parE ms ps)[i]? = some (some (p, fl)) →
    ∃ v, vs[i]? = some v ∧ ((fl = .fz ∧ Rep g F p v) ∨ (fl = .bor ∧ ms[i]? = some true ∧ ∃ a, v = .ref a ∧ F a = none ∧ OwnR g F H p a ∧ a ∈ muts ms vs))
  | [], _, _, i, p, fl, h, e => by
    obtain ⟨rfl, rfl⟩ := h
    simp [parE] at e
  | m :: ms, _, _, i, p, fl, h, e => by
    obtain ⟨q, ps', v, vs', rfl, rfl, hq, h⟩ := h
    cases i with
    | zero =>
      have e' : some (some (q, if m = true then Fl.bor else Fl.fz)) = some (some (p, fl)) := e
      cases m with
      | true =>
        cases e'
        rw [if_pos rfl] at hq
        obtain ⟨a, rfl, h1, h2⟩ := hq
        exact ⟨_, rfl, .inr ⟨rfl, rfl, a, rfl, h1, h2, by rw [muts_true]; exact List.mem_cons_self ..⟩⟩
      | false =>
        cases e'
        rw [if_neg (by simp)] at hq
        exact ⟨v, rfl, .inl ⟨rfl, hq⟩⟩
    | succ i =>
      obtain ⟨w, e1, e2⟩ := parE_get (i := i) h (by simpa [parE] using e)
      refine ⟨w, by simpa using e1, ?_⟩
      rcases e2 with e2 | ⟨e2, e3, a, e4, e5, e6, e7⟩
      · exact .inl e2
      · refine .inr ⟨e2, by simpa using e3, a, e4, e5, e6, ?_⟩
        cases m with
        | true =>
          rw [if_pos rfl] at hq
          obtain ⟨b, rfl, _⟩ := hq
          rw [muts_true]; exact List.mem_cons_of_mem _ e7
        | false => rw [muts_false]; exact e7
theorem parE_len : ∀ {ms : List Bool} {ps : List PV}, ps.length = ms.length → (parE ms ps).length = ps.length
  | [], [], _ => rfl
  | [], _ :: _, h => by cases h
  | _ :: _, [], h => by cases h
  | m :: ms, p :: ps, h => by
    show (parE ms ps).length + 1 = _
    rw [parE_len (by simpa using h)]; rfl
/-- two mutable ones at one address are one -/
theorem muts_inj : ∀ {ms : List Bool} {vs : List V} {i j : Nat} {a : Addr}, vs.length = ms.length → (muts ms vs).Nodup → ms[i]? = some true → ms[j]? = some true → vs[i]? = some (.ref a) → vs[j]? = some (.ref a) → i = j
  | [], vs, i, j, a, _, _, h, _, _, _ => by simp at h
  | m :: ms, [], i, j, a, hl, _, _, _, _, _ => by cases hl
  | m :: ms, v :: vs, i, j, a, hl, nd, h1, h2, h3, h4 => by
    have mem : ∀ {ms : List Bool} {vs : List V} {k : Nat}, vs.length = ms.length → ms[k]? = some true → vs[k]? = some (.ref a) → a ∈ muts ms vs := by
      intro ms
      induction ms with
      | nil => intro vs k _ h; simp at h
      | cons m ms ih =>
        intro vs k hl h h'
        cases vs with
        | nil => cases hl
        | cons v vs =>
          cases k with
          | zero =>
            simp at h h'
            subst h h'
            rw [muts_true]; exact List.mem_cons_self ..
          | succ k =>
            have := ih (vs := vs) (k := k) (by simpa using hl) (by simpa using h) (by simpa using h')
            cases m with
            | false => exact this
            | true =>
              cases v with
              | ref b => rw [muts_true]; exact List.mem_cons_of_mem _ this
              | _ => exact this
    have nd' : (muts ms vs).Nodup := by
      cases m with
      | false => exact nd
      | true =>
        cases v with
        | ref b => rw [muts_true] at nd; exact (List.nodup_cons.mp nd).2
        | _ => exact nd
    cases i with
    | zero =>
      simp at h1 h3
      subst h1 h3
      cases j with
      | zero => rfl
      | succ j =>
        rw [muts_true] at nd
        exact absurd (mem (k := j) (by simpa using hl) (by simpa using h2) (by simpa using h4)) (List.nodup_cons.mp nd).1
    | succ i =>
      cases j with
      | zero =>
        simp at h2 h4
        subst h2 h4
        rw [muts_true] at nd
        exact absurd (mem (k := i) (by simpa using hl) (by simpa using h1) (by simpa using h3)) (List.nodup_cons.mp nd).1
      | succ j =>
        exact congrArg Nat.succ (muts_inj (by simpa using hl) nd' (by simpa using h1) (by simpa using h2) (by simpa using h3) (by simpa using h4))
/-- the entry of a body -/
def entry (N : List Str) (ms : List Bool) (vs : List V) (F H : Hp) : Ent := ⟨F, H, fun a => a ∈ muts ms vs, fun _ => False, L2.start N vs, fun i => ms[i]? = some true⟩
theorem startE_get {d : FD} {ps : List PV} {i : Nat} {q : PV × Fl} (h : (startE d ps)[i]? = some (some q)) : (parE d.sg ps)[i]? = some (some q) := by
  unfold startE at h
  by_cases hi : i < (parE d.sg ps).length
  · rwa [List.getElem?_append_left hi] at h
  · rw [List.getElem?_append_right (by omega)] at h
    have := List.mem_of_getElem? h
    have := List.eq_of_mem_replicate this
    cases this
theorem start_get {N : List Str} {vs : List V} {i : Nat} {v : V} (h : vs[i]? = some v) : (L2.start N vs)[i]? = some (some v) := by
  unfold L2.start
  have hi : i < vs.length := (List.getElem?_eq_some_iff.mp h).1
  rw [List.getElem?_append_left (by simpa using hi), List.getElem?_map, h]; rfl
theorem start_sx {d : FD} {ps : List PV} {vs : List V} (sub : Same F H) (ar : AR g F H d.sg ps vs) (nd : (muts d.sg vs).Nodup) : Sx g (entry d.N d.sg vs F H) (startE d ps) (L2.start d.N vs) F H := by
  obtain ⟨l1, l2⟩ := ar.len
  refine ⟨sub, .refl _, fun a o h _ => h, fun a o _ h _ => h, fun a o h => ⟨o, h⟩, ?_, fun i pv h => ?_, fun i pv fl h hf => ?_, fun i j p q a h1 f1 h2 f2 s1 s2 => ?_, fun i pv h => ?_⟩
  · unfold startE L2.start
    rw [List.length_append, List.length_append, parE_len l1]
    simp [l1, l2]
  · obtain ⟨v, e1, e2⟩ := parE_get ar (startE_get h)
    rcases e2 with ⟨_, e2⟩ | ⟨e2, _⟩
    · exact ⟨v, start_get e1, e2⟩
    · cases e2
  · obtain ⟨v, e1, e2⟩ := parE_get ar (startE_get h)
    rcases e2 with ⟨e2, _⟩ | ⟨e2, e3, a, rfl, e5, e6, e7⟩
    · exact absurd e2 hf
    · exact ⟨a, start_get e1, e5, e6, .inl e7, fun z => by rw [e2] at z; cases z⟩
  · obtain ⟨p1, p2⟩ := p
    obtain ⟨q1, q2⟩ := q
    obtain ⟨v, e1, e2⟩ := parE_get ar (startE_get h1)
    obtain ⟨w, k1, k2⟩ := parE_get ar (startE_get h2)
    rcases e2 with ⟨e2, _⟩ | ⟨e2, e3, b, rfl, _⟩
    · exact absurd e2 f1
    rcases k2 with ⟨k2, _⟩ | ⟨k2, k3, c, rfl, _⟩
    · exact absurd k2 f2
    rw [start_get e1] at s1; cases s1
    rw [start_get k1] at s2; cases s2
    exact muts_inj l2 nd e3 k3 e1 k1
  · obtain ⟨v, e1, e2⟩ := parE_get ar (startE_get h)
    rcases e2 with ⟨e2, _⟩ | ⟨_, e3, _⟩
    · cases e2
    · exact ⟨e3, rfl⟩
theorem outs_ok {F' H' : Hp} : ∀ {ms : List Bool} {e : En} {vs : List V} {σ : L2.St} {outs : List PV}, vs.length = ms.length → (∀ i : Nat, ms[i]? = some true → ∃ a, vs[i]? = some (V.ref a)) →
    (∀ (i : Nat) p, e[i]? = some (some (p, .bor)) → ms[i]? = some true → ∃ a, vs[i]? = some (V.ref a) ∧ OwnR g F' H' p a) → outsOf ms e = some outs → OutR g F' H' (muts ms vs) outs
  | [], _, [], _, _, _, _, _, h => by cases h; rfl
  | [], _, _ :: _, _, _, hl, _, _, _ => by cases hl
  | _ :: _, _, [], _, _, hl, _, _, _ => by cases hl
  | false :: ms, [], v :: vs, σ, outs, hl, hm, ho, h => by cases h
  | false :: ms, x :: e, v :: vs, σ, outs, hl, hm, ho, h => by
    rw [muts_false]
    exact outs_ok (σ := σ) (by simpa using hl) (fun i hi => by simpa using hm (i + 1) (by simpa using hi)) (fun i p hi hj => by simpa using ho (i + 1) p (by simpa using hi) (by simpa using hj)) (show outsOf ms e = some outs from h)
  | true :: ms, [], v :: vs, σ, outs, hl, hm, ho, h => by cases h
  | true :: ms, none :: e, v :: vs, σ, outs, hl, hm, ho, h => by cases h
  | true :: ms, some (p, .fz) :: e, v :: vs, σ, outs, hl, hm, ho, h => by cases h
  | true :: ms, some (p, .own) :: e, v :: vs, σ, outs, hl, hm, ho, h => by cases h
  | true :: ms, some (p, .bor) :: e, v :: vs, σ, outs, hl, hm, ho, h => by
    obtain ⟨o, h1, rfl⟩ := Option.map_eq_some_iff.mp (show (outsOf ms e).map (p :: ·) = some outs from h)
    obtain ⟨a, e1, e2⟩ := ho 0 p rfl rfl
    simp at e1
    subst e1
    rw [muts_true]
    exact ⟨p, o, rfl, e2, outs_ok (σ := σ) (by simpa using hl) (fun i hi => by simpa using hm (i + 1) (by simpa using hi)) (fun i p hi hj => by simpa using ho (i + 1) p (by simpa using hi) (by simpa using hj)) h1⟩
theorem end_post {d : FD} {ps : List PV} {vs : List V} {e : En} {σ : L2.St} {F' H' : Hp} {outs : List PV} (ar : AR g F H d.sg ps vs) (S : Sx g (entry d.N d.sg vs F H) e σ F' H') (ho : outsOf d.sg e = some outs) : CPost g F H (muts d.sg vs) outs F' H' := by
  obtain ⟨l1, l2⟩ := ar.len
  refine ⟨S.f0, S.sub, fun a o h n => S.h0 a o h n, S.th, fun a o h1 h2 => S.nf a o h1 h2 fun z => z, ?_⟩
  have par : ∀ {ms : List Bool} {ps : List PV} {vs : List V}, AR g F H ms ps vs → ∀ i : Nat, ms[i]? = some true → ∃ a, vs[i]? = some (V.ref a) := by
    intro ms
    induction ms with
    | nil => intro ps vs _ i h; simp at h
    | cons m ms ih =>
      intro ps vs h i hi
      obtain ⟨p, ps', v, vs', rfl, rfl, hp, h⟩ := h
      cases i with
      | zero =>
        simp at hi
        subst hi
        rw [if_pos rfl] at hp
        obtain ⟨a, rfl, _⟩ := hp
        exact ⟨a, rfl⟩
      | succ i => simpa using ih h i (by simpa using hi)
  refine outs_ok (σ := σ) l2 (par ar) (fun i p hi hj => ?_) ho
  obtain ⟨a, e1⟩ := par ar i hj
  refine ⟨a, e1, ?_⟩
  obtain ⟨b, k1, _, k3, _⟩ := S.own i p .bor hi (by simp)
  obtain ⟨_, k2⟩ := S.bo i p hi
  have : (L2.start d.N vs)[i]? = some (some (.ref a)) := start_get e1
  rw [k2, show (entry d.N d.sg vs F H).S0 = L2.start d.N vs from rfl, this] at k1
  cases k1
  exact k3
end

/-! ### a table of functions -/
structure FnFact (K : PySem.W.Frag) (mg : Str → Option Value) (f : Str) (d : FD) : Prop where
  ex : ∃ (fa : Addr) (fd : FuncData) (ps : List Str) (qual : Str) (params : Arguments) (body : List Stmt) (scope : Scope) (kws : List (Str × V)), FunD K f qual params body scope [] kws fa fd ∧ FnScope d.N ps scope ∧ mg f = some (.ref fa) ∧ Binds K fd ps [] ∧ ps.length = d.sg.length ∧ chkS d.N scope d.body body = true ∧ ∀ n ks pm, kwOf d.kw n ks = some pm → KBn K fd ps n ks (fun us ws => pick (us ++ ws) pm) (fun vs zs => pick (vs ++ zs) pm)
structure TabOk (K : PySem.W.Frag) (mg : Str → Option Value) (cst : Str → Option PV) (T : Str → Option FD) : Prop where
  fn : ∀ f d, T f = some d → FnFact K mg f d
  blt : ∀ f : Blt, mg f.name = none
  tys : ∀ t : TyN, t ≠ .none → mg (tyStr t) = none
  rng : mg "range" = none
  enm : mg "enumerate" = none
  zip : mg "zip" = none
  cst : ∀ x v, cst x = some v → ∃ w u, mg x = some u ∧ RelV w u ∧ Rep ⟨K, mg⟩ (fun _ => none) v w
theorem fn_all {P : Program} {w : World} {K : PySem.W.Frag} {mg : Str → Option Value} {base : Heap} {cst : Str → Option PV} {T : Str → Option FD} (TB : TabOk K mg cst T) : ∀ (n : Nat) (f : Str) (d : FD), T f = some d →
    ∀ (fa : Addr) (fd : FuncData) (ps : List Str) (qual : Str) (params : Arguments) (body : List Stmt) (scope : Scope) (kws : List (Str × V)), FunD K f qual params body scope [] kws fa fd → FnScope d.N ps scope → ps.length = d.sg.length → chkS d.N scope d.body body = true →
      FnOk P w K mg base (L2.CX P w) n fa fd ps (spF ⟨K, mg⟩ (calN cst T n) f) := by
  intro n
  induction n with
  | zero =>
    intro f d hT fa fd ps qual params body scope kws FU FS hl hc
    refine ⟨fun vs H Q E h => ?_, fun A outer s H args us vs Q E _ _ _ _ h => ?_⟩
    · obtain ⟨F, ps, ms, _, h2, _⟩ := h; cases h2
    · obtain ⟨F, ps, ms, _, h2, _⟩ := h; cases h2
  | succ n ih =>
    intro f d hT fa fd ps qual params body scope kws FU FS hl hc
    have hsig : ∀ ms, (calN cst T (n + 1)).sig f = some ms → ms = d.sg := fun ms h => by
      have h' : (T f).map (·.sg) = some ms := h
      rw [hT] at h'
      cases h'; rfl
    refine FU.ok FS (fun vs H Q E h => ?_) fun cdv A outer s H vs Q E hr h => ?_
    · obtain ⟨F, qs, ms, h1, h2, h3, _⟩ := h
      rw [hsig ms h2] at h3
      rw [h3.len.2, hl]
    · obtain ⟨F, qs, ms, h1, h2, h3, h4, h5⟩ := h
      have := hsig ms h2
      subst this
      have h5' : (match runF (calN cst T n) (some d) qs with
        | .ok r outs => ∀ v F' H', CPost ⟨K, mg⟩ F H (muts d.sg vs) outs F' H' → CV ⟨K, mg⟩ H F' H' r v → Q v H'
        | .exc x outs => ∀ cls c F' H', CPost ⟨K, mg⟩ F H (muts d.sg vs) outs F' H' → XR ⟨K, mg⟩ F' H' x cls c → E cls c H'
        | .bad => False) := by
        have e : (calN cst T (n + 1)).run f qs = runF (calN cst T n) (T f) qs := rfl
        rw [e, hT] at h5; exact h5
      let X := cxOf (L2.CX P w) P w K mg base d.N qual scope fa cdv A outer s H E
      have SK : Sok X (calN cst T n) (fun cls d _ H => E cls d H) d.N scope := by
        refine ⟨⟨rfl, FS.nd, rfl, rfl, hr.units, TB.blt, TB.tys, TB.rng, TB.enm, TB.zip, takes_of (X := X) (E := E) rfl rfl rfl rfl, fun x v hx => ?_, fun f' sg hs => ?_⟩, FS.kind, fun _ => rfl, passes_of (X := X) rfl⟩
        · refine TB.cst x v ?_
          cases n with
          | zero => exact hx
          | succ n => exact hx
        · cases n with
          | zero => cases hs
          | succ n =>
            have hs' : (T f').map (·.sg) = some sg := hs
            obtain ⟨d', hT', _⟩ := Option.map_eq_some_iff.mp hs'
            obtain ⟨fa', fd', ps', q', pr', bd', sc', kws', u1, u2, u3, u4, u5, u6, u7⟩ := (TB.fn f' d' hT').ex
            exact ⟨n + 1, fa', fd', ps', ih f' d' hT' fa' fd' ps' q' pr' bd' sc' kws' u1 u2 u5 u6, hr, u3, u1.kp, u4, fun m ks pm hk => u7 m ks pm (by
              have hk' : (T f').bind (fun d => kwOf d.kw m ks) = some pm := hk
              rw [hT'] at hk'; exact hk')⟩
      refine ⟨_, snd_s SK (sizeOf d.body + 1) d.body (by omega) body hc, entry d.N d.sg vs F H, startE d qs, F, start_sx h1 h3 h4, ?_⟩
      unfold runF at h5'
      simp only at h5'
      cases hx : exec (calN cst T n) d.body (startE d qs) with
      | nx e =>
        rw [hx] at h5'
        unfold finish cres at h5'
        cases ho : outsOf d.sg e with
        | none => simp only [ho] at h5'
        | some o =>
          simp only [ho] at h5'
          exact fun σ F' H' S => h5' _ F' H' (end_post h3 S ho) rfl
      | ret r e =>
        rw [hx] at h5'
        unfold finish cres at h5'
        cases ho : outsOf d.sg e with
        | none => simp only [ho] at h5'
        | some o =>
          simp only [ho] at h5'
          refine fun v σ F' H' S q => h5' v F' H' (end_post h3 S ho) ?_
          obtain ⟨p, fl⟩ := r
          cases fl with
          | fz => exact q
          | bor => exact q.elim
          | own =>
            obtain ⟨a, q1, q2, q3, q4⟩ := q
            rcases q4 with z | z
            · exact z.elim
            · exact ⟨a, q1, z, q2, q3⟩
      | exc x e =>
        rw [hx] at h5'
        unfold finish cres at h5'
        cases ho : outsOf d.sg e with
        | none => simp only [ho] at h5'
        | some o =>
          simp only [ho] at h5'
          exact fun cls c σ F' H' S q => h5' cls c F' H' (end_post h3 S ho) q
      | brk e => rw [hx] at h5'; exact h5'.elim
      | cnt e => rw [hx] at h5'; exact h5'.elim
      | bad => rw [hx] at h5'; exact h5'.elim
/-- the law's def: nothing is let out -/
theorem law_ok {P : Program} {w : World} {K : PySem.W.Frag} {mg : Str → Option Value} {base : Heap} {cst : Str → Option PV} {T : Str → Option FD} {n : Nat} {f : Str} {fa : Addr} {fd : FuncData} {ps : List Str}
    (F : FnOk P w K mg base (L2.CX P w) n fa fd ps (spF ⟨K, mg⟩ (calN cst T n) f)) : FnOk P w K mg base CX0 n fa fd ps (fun vs H Q _ => spF ⟨K, mg⟩ (calN cst T n) f vs H Q fun _ _ _ => False) :=
  ⟨fun vs H Q E h => F.len vs H Q _ h, fun A outer s H args us vs Q E r e b v h => codeAny_mono (F.run A outer s H args us vs Q (fun _ _ _ => False) r e b v h) fun r s' hq => by
    cases r with
    | ok fl => cases fl <;> exact hq
    | error u => obtain ⟨_, _, _, _, _, _, _, _, _, _, _, _, hE⟩ := hq; exact hE.elim⟩
theorem reps_ints {g : Gx} {F : Hp} : ∀ ns : List Int, Reps g F (ns.map PV.int) (ns.map V.int)
  | [] => rfl
  | n :: ns => ⟨_, _, rfl, rfl, reps_ints ns⟩
/-- what the end asks of the pure run -/
theorem law_sp {K : PySem.W.Frag} {mg : Str → Option Value} {C : Cal} {f : Str} {H : Hp} {a : Addr} {ns : List Int} (hsig : C.sig f = some [false]) (hS : SqL K H a (ns.map V.int)) (fl : Fl) (outs : List PV) (h : C.run f [.scr (ns.map PV.int)] = .ok (.bl true, fl) outs) :
    spF ⟨K, mg⟩ C f [.ref a] H (fun v _ => v = .bl true) fun _ _ _ => False := by
  refine ⟨H, [.scr (ns.map PV.int)], [false], .refl _, hsig, ⟨_, _, _, _, rfl, rfl, ?_, rfl, rfl⟩, .nil, ?_⟩
  · rw [if_neg (by simp)]
    exact ⟨a, _, rfl, hS, reps_ints ns⟩
  · rw [h]
    intro v F' H' _ cv
    cases fl with
    | fz => exact cv
    | own => obtain ⟨b, _, _, _, q⟩ := cv; exact q.elim
    | bor => exact cv.elim
theorem lookup_mem {α : Type} {x : Str} {v : α} : ∀ {l : List (Str × α)}, l.lookup x = some v → (x, v) ∈ l
  | [], h => by cases h
  | (y, w) :: l, h => by
    rw [List.lookup_cons] at h
    split at h
    · rename_i e
      cases h
      have : x = y := eq_of_beq e
      subst this
      exact List.mem_cons_self ..
    · exact List.mem_cons_of_mem _ (lookup_mem h)
theorem kwOf_mem {l : List (Nat × List Str × List Nat)} {n : Nat} {ks : List Str} {pm : List Nat} (h : kwOf l n ks = some pm) : (n, ks, pm) ∈ l := by
  obtain ⟨x, h1, h2⟩ := Option.map_eq_some_iff.mp h
  have hp := List.find?_some h1
  obtain ⟨e1, e2⟩ := band hp
  have e1' := eq_of_beq e1
  have e2' := eq_of_beq e2
  obtain ⟨a, b, c⟩ := x
  simp only at e1' e2' h2
  subst e1' e2' h2
  exact List.mem_of_find?_eq_some h1
theorem kbn_of {K : PySem.W.Frag} {x qual : Str} {params : Arguments} {body : List Stmt} {scope : Scope} {kws : List (Str × V)} {f : Addr} {fd : FuncData} {ps ks : List Str} {n : Nat} {pm : List Nat} (F : FunD K x qual params body scope [] kws f fd)
    (h : ∀ (kV doc p : Value) (an : Option Addr) (cdv ct : Value) (us ws : List Value), us.length = n → ws.length = ks.length → bindArgs (PySem.W.fnOf x qual params body scope .none kV doc p an cdv ct) ⟨us, ks.zip ws⟩ = pure (ps.zip (pick (us ++ ws) pm))) :
    KBn K fd ps n ks (fun us ws => pick (us ++ ws) pm) (fun vs zs => pick (vs ++ zs) pm) := by
  obtain ⟨oc, od, dV, kV, doc, p, an, cdv, ct, osl, rfl, lk, hcd, hD, hK⟩ := F.ex
  rcases hD with ⟨_, rfl⟩ | ⟨e, _⟩
  · exact ⟨fun s us ws _ l1 l2 => .of_eq (h kV doc p an cdv ct us ws l1 l2), fun r1 r2 => vals_pick (r1.append r2) pm⟩
  · exact absurd rfl e
end Bd

namespace Bd
open PySem L2
section
variable {α β : Type} {C : Cal} {e : En}
theorem bd_ok (a : α) (k : α → En → Out β) : (Out.ok a e).bind k = k a e := rfl
theorem bd_exc (x : PX) (k : α → En → Out β) : (Out.exc x e).bind k = .exc x e := rfl
theorem bd_bad (k : α → En → Out β) : (Out.bad : Out α).bind k = .bad := rfl
theorem fo_ok (a : α) (k : α → En → Fo) : (Out.ok a e).fo k = k a e := rfl
theorem fo_exc (x : PX) (k : α → En → Fo) : (Out.exc x e : Out α).fo k = .exc x e := rfl
theorem th_nx (k : En → Fo) : (Fo.nx e).andThen k = k e := rfl
theorem th_ret (r : PV × Fl) (k : En → Fo) : (Fo.ret r e).andThen k = .ret r e := rfl
theorem th_exc (r : PX) (k : En → Fo) : (Fo.exc r e).andThen k = .exc r e := rfl
theorem th_brk (k : En → Fo) : (Fo.brk e).andThen k = .brk e := rfl
theorem th_cnt (k : En → Fo) : (Fo.cnt e).andThen k = .cnt e := rfl
theorem tk_nx (k : En → Fo) : turnK k (.nx e) = k e := rfl
theorem tk_cnt (k : En → Fo) : turnK k (.cnt e) = k e := rfl
theorem tk_brk (k : En → Fo) : turnK k (.brk e) = .nx e := rfl
theorem tk_ret (r : PV × Fl) (k : En → Fo) : turnK k (.ret r e) = .ret r e := rfl
theorem tk_exc (r : PX) (k : En → Fo) : turnK k (.exc r e) = .exc r e := rfl
theorem x_nil : exec C .nil e = .nx e := rfl
theorem x_seq (a b : IS) : exec C (.seq a b) e = (exec C a e).andThen (exec C b) := rfl
def kAsg (i : Nat) (r : PV × Fl) (e1 : En) : Fo := .nx (e1.set i (some r))
theorem kAsg_eq (i : Nat) (r : PV × Fl) (e1 : En) : kAsg i r e1 = .nx (e1.set i (some r)) := rfl
theorem x_asg (i : Nat) (a : IE) : exec C (.asg i a) e = ((ev C a).1 e).fo (kAsg i) := rfl
def kUnp (is : List Nat) (r : PV × Fl) (e1 : En) : Fo := (match setG (.tup is) r.1 e1 with
    | some e2 => .nx e2
    | none => .bad)
theorem kUnp_eq (is : List Nat) (r : PV × Fl) (e1 : En) : kUnp is r e1 = (match setG (.tup is) r.1 e1 with
    | some e2 => .nx e2
    | none => .bad) := rfl
theorem x_unp (is : List Nat) (a : IE) : exec C (.unp is a) e = ((ev C a).1 e).fo (kUnp is) := rfl
def kPar (is : List Nat) (ps : List PV) (e1 : En) : Fo := if is.length = ps.length then .nx (setPar is ps e1) else .bad
theorem kPar_eq (is : List Nat) (ps : List PV) (e1 : En) : kPar is ps e1 = if is.length = ps.length then .nx (setPar is ps e1) else .bad := rfl
theorem x_par (is : List Nat) (a : IE) : exec C (.par is a) e = (evF C a e).fo (kPar is) := rfl
def kSet2 (i : Nat) (r : PV × Fl) (x : Opd) (e2 : En) : Fo := setItemE i x r.1 e2
theorem kSet2_eq (i : Nat) (r : PV × Fl) (x : Opd) (e2 : En) : kSet2 i r x e2 = setItemE i x r.1 e2 := rfl
def kSet1 (C : Cal) (i : Nat) (ix : IE) (r : PV × Fl) (e1 : En) : Fo := if (lstAt e1 i).isSome then (opd ix (ev C ix).1 e1).fo (kSet2 i r) else .bad
theorem kSet1_eq (C : Cal) (i : Nat) (ix : IE) (r : PV × Fl) (e1 : En) : kSet1 C i ix r e1 = if (lstAt e1 i).isSome then (opd ix (ev C ix).1 e1).fo (kSet2 i r) else .bad := rfl
theorem x_seti (i : Nat) (ix a : IE) : exec C (.seti i ix a) e = ((ev C a).1 e).fo (kSet1 C i ix) := rfl
def kApp (i : Nat) (r : PV × Fl) (e1 : En) : Fo := appE i r.1 e1
theorem kApp_eq (i : Nat) (r : PV × Fl) (e1 : En) : kApp i r e1 = appE i r.1 e1 := rfl
theorem x_app (i : Nat) (a : IE) : exec C (.app i a) e = if (lstAt e i).isSome then ((ev C a).1 e).fo (kApp i) else .bad := rfl
def kExpr  (r : PV × Fl) (e1 : En) : Fo := .nx e1
theorem kExpr_eq  (r : PV × Fl) (e1 : En) : kExpr r e1 = .nx e1 := rfl
theorem x_expr (a : IE) : exec C (.expr a) e = ((ev C a).1 e).fo kExpr := rfl
theorem x_ret (a : IE) : exec C (.ret a) e = retE C a e := rfl
theorem x_retN : exec C .retN e = .ret (.non, .fz) e := rfl
def kIf (C : Cal) (a b : IS) (k : Bool) (e1 : En) : Fo := if k then exec C a e1 else exec C b e1
theorem kIf_eq (C : Cal) (a b : IS) (k : Bool) (e1 : En) : kIf C a b k e1 = if k then exec C a e1 else exec C b e1 := rfl
theorem x_ife (c : IE) (a b : IS) : exec C (.ife c a b) e = ((ev C c).2 e).fo (kIf C a b) := rfl
def kLoop (C : Cal) (g : IG) (b : IS) (xs : List PV) (e1 : En) : Fo := forLoop g (exec C b) xs e1
theorem kLoop_eq (C : Cal) (g : IG) (b : IS) (xs : List PV) (e1 : En) : kLoop C g b xs e1 = forLoop g (exec C b) xs e1 := rfl
theorem x_loop (g : IG) (it : IE) (b : IS) : exec C (.loop g it b) e = (evIt C it e).fo (kLoop C g b) := rfl
theorem x_whl (n : Nat) (c : IE) (b : IS) : exec C (.whl n c b) e = whileLoop (ev C c).2 (exec C b) n e := rfl
def kWh (c : En → Out Bool) (b : En → Fo) (n : Nat) (k : Bool) (e1 : En) : Fo := if k then turnK (whileLoop c b n) (b e1) else .nx e1
theorem kWh_eq (c : En → Out Bool) (b : En → Fo) (n : Nat) (k : Bool) (e1 : En) : kWh c b n k e1 = if k then turnK (whileLoop c b n) (b e1) else .nx e1 := rfl
theorem wl_succ (c : En → Out Bool) (b : En → Fo) (n : Nat) : whileLoop c b (n + 1) e = (c e).fo (kWh c b n) := rfl
theorem x_brk : exec C .brk e = .brk e := rfl
theorem x_cnt : exec C .cnt e = .cnt e := rfl
theorem x_pass : exec C .pass e = .nx e := rfl
theorem fl_nil (g : IG) (b : En → Fo) : forLoop g b [] e = .nx e := rfl
theorem fl_cons (g : IG) (b : En → Fo) (x : PV) (r : List PV) : forLoop g b (x :: r) e = match setG g x e with
    | none => .bad
    | some e1 => turnK (forLoop g b r) (b e1) := rfl
def kCl2 (y : Option PV) (ys : List PV) (e2 : En) : Out (List PV) := .ok (consO y ys) e2
theorem kCl2_eq (y : Option PV) (ys : List PV) (e2 : En) : kCl2 y ys e2 = .ok (consO y ys) e2 := rfl
def kCl1 (f : PV → En → Out (Option PV)) (r : List PV) (y : Option PV) (e1 : En) : Out (List PV) := (compLoop f r e1).bind (kCl2 y)
theorem kCl1_eq (f : PV → En → Out (Option PV)) (r : List PV) (y : Option PV) (e1 : En) : kCl1 f r y e1 = (compLoop f r e1).bind (kCl2 y) := rfl
theorem cl_nil (f : PV → En → Out (Option PV)) : compLoop f [] e = .ok [] e := rfl
theorem cl_cons (f : PV → En → Out (Option PV)) (x : PV) (r : List PV) : compLoop f (x :: r) e = (f x e).bind (kCl1 f r) := rfl
def kTr  (r : PV × Fl) (e1 : En) : Out Bool := liftB (truth r.1) e1
theorem kTr_eq  (r : PV × Fl) (e1 : En) : kTr r e1 = liftB (truth r.1) e1 := rfl
def kB2 (op : Operator) (x : Opd) (y : Opd) (e2 : En) : Out (PV × Fl) := liftO ((rsO e2 x).bind fun p => (rsO e2 y).bind fun q => binP op p q) e2
theorem kB2_eq (op : Operator) (x : Opd) (y : Opd) (e2 : En) : kB2 op x y e2 = liftO ((rsO e2 x).bind fun p => (rsO e2 y).bind fun q => binP op p q) e2 := rfl
def kB1 (C : Cal) (op : Operator) (b : IE) (x : Opd) (e1 : En) : Out (PV × Fl) := (opd b (ev C b).1 e1).bind (kB2 op x)
theorem kB1_eq (C : Cal) (op : Operator) (b : IE) (x : Opd) (e1 : En) : kB1 C op b x e1 = (opd b (ev C b).1 e1).bind (kB2 op x) := rfl
def kU (op : UnaryOp) (x : Opd) (e1 : En) : Out (PV × Fl) := liftO ((rsO e1 x).bind fun p => unP op p) e1
theorem kU_eq (op : UnaryOp) (x : Opd) (e1 : En) : kU op x e1 = liftO ((rsO e1 x).bind fun p => unP op p) e1 := rfl
def kTup  (ps : List PV) (e1 : En) : Out (PV × Fl) := okIf (decide (ps.length ≤ sizeLine)) (.tup ps, .fz) e1
theorem kTup_eq  (ps : List PV) (e1 : En) : kTup ps e1 = okIf (decide (ps.length ≤ sizeLine)) (.tup ps, .fz) e1 := rfl
def kLst  (ps : List PV) (e1 : En) : Out (PV × Fl) := okIf (decide (ps.length ≤ sizeLine)) (.lst ps, .own) e1
theorem kLst_eq  (ps : List PV) (e1 : En) : kLst ps e1 = okIf (decide (ps.length ≤ sizeLine)) (.lst ps, .own) e1 := rfl
def kS2 (x : Opd) (y : Opd) (e2 : En) : Out (PV × Fl) := fzO ((rsO e2 x).bind fun p => (rsO e2 y).bind fun q => ixP p q) e2
theorem kS2_eq (x : Opd) (y : Opd) (e2 : En) : kS2 x y e2 = fzO ((rsO e2 x).bind fun p => (rsO e2 y).bind fun q => ixP p q) e2 := rfl
def kS1 (C : Cal) (b : IE) (x : Opd) (e1 : En) : Out (PV × Fl) := (opd b (ev C b).1 e1).bind (kS2 x)
theorem kS1_eq (C : Cal) (b : IE) (x : Opd) (e1 : En) : kS1 C b x e1 = (opd b (ev C b).1 e1).bind (kS2 x) := rfl
def kC3 (x : Opd) (l : Option Int) (h : Option Int) (e3 : En) : Out (PV × Fl) := liftO ((rsO e3 x).bind fun p => slP p l h) e3
theorem kC3_eq (x : Opd) (l : Option Int) (h : Option Int) (e3 : En) : kC3 x l h e3 = liftO ((rsO e3 x).bind fun p => slP p l h) e3 := rfl
def kC2 (C : Cal) (hi : IE) (x : Opd) (l : Option Int) (e2 : En) : Out (PV × Fl) := (part hi (ev C hi).1 e2).bind (kC3 x l)
theorem kC2_eq (C : Cal) (hi : IE) (x : Opd) (l : Option Int) (e2 : En) : kC2 C hi x l e2 = (part hi (ev C hi).1 e2).bind (kC3 x l) := rfl
def kC1 (C : Cal) (lo hi : IE) (x : Opd) (e1 : En) : Out (PV × Fl) := (part lo (ev C lo).1 e1).bind (kC2 C hi x)
theorem kC1_eq (C : Cal) (lo hi : IE) (x : Opd) (e1 : En) : kC1 C lo hi x e1 = (part lo (ev C lo).1 e1).bind (kC2 C hi x) := rfl
def kCall (C : Cal) (f : Str) (gs : List Arg) (e1 : En) : Out (PV × Fl) := doCall C f gs e1
theorem kCall_eq (C : Cal) (f : Str) (gs : List Arg) (e1 : En) : kCall C f gs e1 = doCall C f gs e1 := rfl
def kK2 (C : Cal) (f : Str) (sg : List Bool) (n : Nat) (ks : List Str) (pm : List Nat) (us : List PV) (ws : List PV) (e2 : En) : Out (PV × Fl) := kwCall C f sg n ks pm us ws e2
theorem kK2_eq (C : Cal) (f : Str) (sg : List Bool) (n : Nat) (ks : List Str) (pm : List Nat) (us : List PV) (ws : List PV) (e2 : En) : kK2 C f sg n ks pm us ws e2 = kwCall C f sg n ks pm us ws e2 := rfl
def kK1 (C : Cal) (f : Str) (sg : List Bool) (n : Nat) (ks : List Str) (pm : List Nat) (ak : IE) (us : List PV) (e1 : En) : Out (PV × Fl) := (evF C ak e1).bind (kK2 C f sg n ks pm us)
theorem kK1_eq (C : Cal) (f : Str) (sg : List Bool) (n : Nat) (ks : List Str) (pm : List Nat) (ak : IE) (us : List PV) (e1 : En) : kK1 C f sg n ks pm ak us e1 = (evF C ak e1).bind (kK2 C f sg n ks pm us) := rfl
def kBl (f : Blt) (os : List Opd) (e1 : En) : Out (PV × Fl) := liftO ((rsOs e1 os).bind fun ps => bltP f ps) e1
theorem kBl_eq (f : Blt) (os : List Opd) (e1 : En) : kBl f os e1 = liftO ((rsOs e1 os).bind fun ps => bltP f ps) e1 := rfl
def kM2 (m : Mth) (x : Opd) (os : List Opd) (e2 : En) : Out (PV × Fl) := liftO ((rsO e2 x).bind fun p => (rsOs e2 os).bind fun ps => mthP m p ps) e2
theorem kM2_eq (m : Mth) (x : Opd) (os : List Opd) (e2 : En) : kM2 m x os e2 = liftO ((rsO e2 x).bind fun p => (rsOs e2 os).bind fun ps => mthP m p ps) e2 := rfl
def kM1 (C : Cal) (m : Mth) (as : IE) (x : Opd) (e1 : En) : Out (PV × Fl) := if kindO m (rsO e1 x) then (evOs C as e1).bind (kM2 m x) else .bad
theorem kM1_eq (C : Cal) (m : Mth) (as : IE) (x : Opd) (e1 : En) : kM1 C m as x e1 = if kindO m (rsO e1 x) then (evOs C as e1).bind (kM2 m x) else .bad := rfl
def kCo (C : Cal) (own : List Nat) (g : IG) (cond elt : IE) (xs : List PV) (e1 : En) : Out (PV × Fl) := if ownFz own e1 then compEnd own e1 (compLoop (compTurnE own g (ev C cond).2 (ev C elt).1) xs (wipeE e1 own)) else .bad
theorem kCo_eq (C : Cal) (own : List Nat) (g : IG) (cond elt : IE) (xs : List PV) (e1 : En) : kCo C own g cond elt xs e1 = if ownFz own e1 then compEnd own e1 (compLoop (compTurnE own g (ev C cond).2 (ev C elt).1) xs (wipeE e1 own)) else .bad := rfl
def kRg  (os : List Opd) (e1 : En) : Out (PV × Fl) := fzO ((rsOs e1 os).bind fun ps => (rngP ps).map .lst) e1
theorem kRg_eq  (os : List Opd) (e1 : En) : kRg os e1 = fzO ((rsOs e1 os).bind fun ps => (rngP ps).map .lst) e1 := rfl
def kEn  (r : PV × Fl) (e1 : En) : Out (PV × Fl) := fzO (enmP r.1) e1
theorem kEn_eq  (r : PV × Fl) (e1 : En) : kEn r e1 = fzO (enmP r.1) e1 := rfl
def kZ2 (r : PV × Fl) (q : PV × Fl) (e2 : En) : Out (PV × Fl) := fzO ((zipP r.1 q.1).map .lst) e2
theorem kZ2_eq (r : PV × Fl) (q : PV × Fl) (e2 : En) : kZ2 r q e2 = fzO ((zipP r.1 q.1).map .lst) e2 := rfl
def kZ1 (C : Cal) (b : IE) (r : PV × Fl) (e1 : En) : Out (PV × Fl) := ((ev C b).1 e1).bind (kZ2 r)
theorem kZ1_eq (C : Cal) (b : IE) (r : PV × Fl) (e1 : En) : kZ1 C b r e1 = ((ev C b).1 e1).bind (kZ2 r) := rfl
theorem v_int (i : Int) : (ev C (.int i)).1 e = .ok (.int i, .fz) e := rfl
theorem t_int (i : Int) : (ev C (.int i)).2 e = ((ev C (.int i)).1 e).bind kTr := rfl
theorem v_str (x : Str) : (ev C (.str x)).1 e = .ok (.str x, .fz) e := rfl
theorem t_str (x : Str) : (ev C (.str x)).2 e = ((ev C (.str x)).1 e).bind kTr := rfl
theorem v_bl (b : Bool) : (ev C (.bl b)).1 e = .ok (.bl b, .fz) e := rfl
theorem t_bl (b : Bool) : (ev C (.bl b)).2 e = ((ev C (.bl b)).1 e).bind kTr := rfl
theorem v_non  : (ev C .non).1 e = .ok (.non, .fz) e := rfl
theorem t_non  : (ev C .non).2 e = ((ev C .non).1 e).bind kTr := rfl
theorem v_cst (x : Str) : (ev C (.cst x)).1 e = fzO (C.cst x) e := rfl
theorem t_cst (x : Str) : (ev C (.cst x)).2 e = ((ev C (.cst x)).1 e).bind kTr := rfl
theorem v_fnv (x : Str) : (ev C (.fnv x)).1 e = okIf (C.sig x).isSome (.fn x, .fz) e := rfl
theorem t_fnv (x : Str) : (ev C (.fnv x)).2 e = ((ev C (.fnv x)).1 e).bind kTr := rfl
theorem v_tyv (t : TyN) : (ev C (.tyv t)).1 e = .ok (.ty t, .fz) e := rfl
theorem t_tyv (t : TyN) : (ev C (.tyv t)).2 e = ((ev C (.tyv t)).1 e).bind kTr := rfl
theorem v_bin (op : Operator) (a b : IE) : (ev C (.bin op a b)).1 e = (opd a (ev C a).1 e).bind (kB1 C op b) := rfl
theorem t_bin (op : Operator) (a b : IE) : (ev C (.bin op a b)).2 e = ((ev C (.bin op a b)).1 e).bind kTr := rfl
theorem v_un (op : UnaryOp) (a : IE) : (ev C (.un op a)).1 e = (opd a (ev C a).1 e).bind (kU op) := rfl
theorem t_un (op : UnaryOp) (a : IE) : (ev C (.un op a)).2 e = ((ev C (.un op a)).1 e).bind kTr := rfl
theorem v_tup (as : IE) : (ev C (.tup as)).1 e = (evF C as e).bind kTup := rfl
theorem t_tup (as : IE) : (ev C (.tup as)).2 e = ((ev C (.tup as)).1 e).bind kTr := rfl
theorem v_lst (as : IE) : (ev C (.lst as)).1 e = (evF C as e).bind kLst := rfl
theorem t_lst (as : IE) : (ev C (.lst as)).2 e = ((ev C (.lst as)).1 e).bind kTr := rfl
theorem v_sub (a b : IE) : (ev C (.sub a b)).1 e = (opd a (ev C a).1 e).bind (kS1 C b) := rfl
theorem t_sub (a b : IE) : (ev C (.sub a b)).2 e = ((ev C (.sub a b)).1 e).bind kTr := rfl
theorem v_slc (a lo hi : IE) : (ev C (.slc a lo hi)).1 e = (opd a (ev C a).1 e).bind (kC1 C lo hi) := rfl
theorem t_slc (a lo hi : IE) : (ev C (.slc a lo hi)).2 e = ((ev C (.slc a lo hi)).1 e).bind kTr := rfl
theorem v_call (f : Str) (as : IE) : (ev C (.call f as)).1 e = (match C.sig f with
    | none => .bad
    | some sg => (evArg C as sg e).bind (kCall C f)) := rfl
theorem t_call (f : Str) (as : IE) : (ev C (.call f as)).2 e = ((ev C (.call f as)).1 e).bind kTr := rfl
theorem v_callk (f : Str) (n : Nat) (ks : List Str) (ap ak : IE) : (ev C (.callk f n ks ap ak)).1 e = (match C.sig f, C.kw f n ks with
    | some sg, some pm => (evF C ap e).bind (kK1 C f sg n ks pm ak)
    | _, _ => .bad) := rfl
theorem t_callk (f : Str) (n : Nat) (ks : List Str) (ap ak : IE) : (ev C (.callk f n ks ap ak)).2 e = ((ev C (.callk f n ks ap ak)).1 e).bind kTr := rfl
theorem v_blt (f : Blt) (as : IE) : (ev C (.blt f as)).1 e = (evOs C as e).bind (kBl f) := rfl
theorem t_blt (f : Blt) (as : IE) : (ev C (.blt f as)).2 e = ((ev C (.blt f as)).1 e).bind kTr := rfl
theorem v_mth (m : Mth) (o as : IE) : (ev C (.mth m o as)).1 e = (opd o (ev C o).1 e).bind (kM1 C m as) := rfl
theorem t_mth (m : Mth) (o as : IE) : (ev C (.mth m o as)).2 e = ((ev C (.mth m o as)).1 e).bind kTr := rfl
theorem v_comp (own : List Nat) (g : IG) (it cond elt : IE) : (ev C (.comp own g it cond elt)).1 e = (evIt C it e).bind (kCo C own g cond elt) := comp_ev e
theorem t_comp (own : List Nat) (g : IG) (it cond elt : IE) : (ev C (.comp own g it cond elt)).2 e = ((ev C (.comp own g it cond elt)).1 e).bind kTr := rfl
theorem v_rng (as : IE) : (ev C (.rng as)).1 e = (evOs C as e).bind kRg := rfl
theorem t_rng (as : IE) : (ev C (.rng as)).2 e = ((ev C (.rng as)).1 e).bind kTr := rfl
theorem v_enm (a : IE) : (ev C (.enm a)).1 e = ((ev C a).1 e).bind kEn := rfl
theorem t_enm (a : IE) : (ev C (.enm a)).2 e = ((ev C (.enm a)).1 e).bind kTr := rfl
theorem v_zip (a b : IE) : (ev C (.zip a b)).1 e = ((ev C a).1 e).bind (kZ1 C b) := rfl
theorem t_zip (a b : IE) : (ev C (.zip a b)).2 e = ((ev C (.zip a b)).1 e).bind kTr := rfl
def kVb  (b : Bool) (e1 : En) : Out (PV × Fl) := .ok (.bl b, .fz) e1
theorem kVb_eq  (b : Bool) (e1 : En) : kVb b e1 = .ok (.bl b, .fz) e1 := rfl
def kQ2 (op : CmpOp) (x : Opd) (y : Opd) (e2 : En) : Out Bool := cmp2 op x y e2
theorem kQ2_eq (op : CmpOp) (x : Opd) (y : Opd) (e2 : En) : kQ2 op x y e2 = cmp2 op x y e2 := rfl
def kQ1 (C : Cal) (op : CmpOp) (b : IE) (x : Opd) (e1 : En) : Out Bool := (opd b (ev C b).1 e1).bind (kQ2 op x)
theorem kQ1_eq (C : Cal) (op : CmpOp) (b : IE) (x : Opd) (e1 : En) : kQ1 C op b x e1 = (opd b (ev C b).1 e1).bind (kQ2 op x) := rfl
def kH4 (op' : CmpOp) (y : Opd) (z : Opd) (e4 : En) : Out Bool := cmp2 op' y z e4
theorem kH4_eq (op' : CmpOp) (y : Opd) (z : Opd) (e4 : En) : kH4 op' y z e4 = cmp2 op' y z e4 := rfl
def kH3 (C : Cal) (op' : CmpOp) (c : IE) (y : Opd) (k : Bool) (e3 : En) : Out Bool := if k then (opd c (ev C c).1 e3).bind (kH4 op' y) else .ok false e3
theorem kH3_eq (C : Cal) (op' : CmpOp) (c : IE) (y : Opd) (k : Bool) (e3 : En) : kH3 C op' c y k e3 = if k then (opd c (ev C c).1 e3).bind (kH4 op' y) else .ok false e3 := rfl
def kH2 (C : Cal) (op op' : CmpOp) (c : IE) (x : Opd) (y : Opd) (e2 : En) : Out Bool := (cmp2 op x y e2).bind (kH3 C op' c y)
theorem kH2_eq (C : Cal) (op op' : CmpOp) (c : IE) (x : Opd) (y : Opd) (e2 : En) : kH2 C op op' c x y e2 = (cmp2 op x y e2).bind (kH3 C op' c y) := rfl
def kH1 (C : Cal) (op op' : CmpOp) (b c : IE) (x : Opd) (e1 : En) : Out Bool := (opd b (ev C b).1 e1).bind (kH2 C op op' c x)
theorem kH1_eq (C : Cal) (op op' : CmpOp) (b c : IE) (x : Opd) (e1 : En) : kH1 C op op' b c x e1 = (opd b (ev C b).1 e1).bind (kH2 C op op' c x) := rfl
theorem v_cmp (op : CmpOp) (a b : IE) : (ev C (.cmp op a b)).1 e = ((ev C (.cmp op a b)).2 e).bind kVb := rfl
theorem t_cmp (op : CmpOp) (a b : IE) : (ev C (.cmp op a b)).2 e = (opd a (ev C a).1 e).bind (kQ1 C op b) := rfl
theorem v_chn (op op' : CmpOp) (a b c : IE) : (ev C (.chn op op' a b c)).1 e = ((ev C (.chn op op' a b c)).2 e).bind kVb := rfl
theorem t_chn (op op' : CmpOp) (a b c : IE) : (ev C (.chn op op' a b c)).2 e = (opd a (ev C a).1 e).bind (kH1 C op op' b c) := rfl
theorem v_var (i : Nat) : (ev C (.var i)).1 e = evVar i e := rfl
theorem t_var (i : Nat) : (ev C (.var i)).2 e = tsVar i e := rfl
def kN2  (b : Bool) (e2 : En) : Out (PV × Fl) := .ok (.bl (!b), .fz) e2
theorem kN2_eq  (b : Bool) (e2 : En) : kN2 b e2 = .ok (.bl (!b), .fz) e2 := rfl
def kN1  (x : Opd) (e1 : En) : Out (PV × Fl) := (liftB ((rsO e1 x).bind truth) e1).bind kN2
theorem kN1_eq  (x : Opd) (e1 : En) : kN1 x e1 = (liftB ((rsO e1 x).bind truth) e1).bind kN2 := rfl
def kNt  (b : Bool) (e1 : En) : Out Bool := .ok (!b) e1
theorem kNt_eq  (b : Bool) (e1 : En) : kNt b e1 = .ok (!b) e1 := rfl
theorem v_not (a : IE) : (ev C (.not a)).1 e = (opd a (ev C a).1 e).bind kN1 := rfl
theorem t_not (a : IE) : (ev C (.not a)).2 e = ((ev C a).2 e).bind kNt := rfl
def kAn (C : Cal) (b : IE) (r : PV × Fl) (e1 : En) : Out (PV × Fl) := (match truth r.1 with
      | some true => (ev C b).1 e1
      | some false => .ok r e1
      | none => .bad)
theorem kAn_eq (C : Cal) (b : IE) (r : PV × Fl) (e1 : En) : kAn C b r e1 = (match truth r.1 with
      | some true => (ev C b).1 e1
      | some false => .ok r e1
      | none => .bad) := rfl
def kAt (C : Cal) (b : IE) (k : Bool) (e1 : En) : Out Bool := if k then (ev C b).2 e1 else .ok false e1
theorem kAt_eq (C : Cal) (b : IE) (k : Bool) (e1 : En) : kAt C b k e1 = if k then (ev C b).2 e1 else .ok false e1 := rfl
theorem v_and (a b : IE) : (ev C (.and a b)).1 e = ((ev C a).1 e).bind (kAn C b) := rfl
theorem t_and (a b : IE) : (ev C (.and a b)).2 e = ((ev C a).2 e).bind (kAt C b) := rfl
def kOn (C : Cal) (b : IE) (r : PV × Fl) (e1 : En) : Out (PV × Fl) := (match truth r.1 with
      | some false => (ev C b).1 e1
      | some true => .ok r e1
      | none => .bad)
theorem kOn_eq (C : Cal) (b : IE) (r : PV × Fl) (e1 : En) : kOn C b r e1 = (match truth r.1 with
      | some false => (ev C b).1 e1
      | some true => .ok r e1
      | none => .bad) := rfl
def kOt (C : Cal) (b : IE) (k : Bool) (e1 : En) : Out Bool := if k then .ok true e1 else (ev C b).2 e1
theorem kOt_eq (C : Cal) (b : IE) (k : Bool) (e1 : En) : kOt C b k e1 = if k then .ok true e1 else (ev C b).2 e1 := rfl
theorem v_or (a b : IE) : (ev C (.or a b)).1 e = ((ev C a).1 e).bind (kOn C b) := rfl
theorem t_or (a b : IE) : (ev C (.or a b)).2 e = ((ev C a).2 e).bind (kOt C b) := rfl
def kIv (C : Cal) (a b : IE) (k : Bool) (e1 : En) : Out (PV × Fl) := if k then (ev C a).1 e1 else (ev C b).1 e1
theorem kIv_eq (C : Cal) (a b : IE) (k : Bool) (e1 : En) : kIv C a b k e1 = if k then (ev C a).1 e1 else (ev C b).1 e1 := rfl
def kIt (C : Cal) (a b : IE) (k : Bool) (e1 : En) : Out Bool := if k then (ev C a).2 e1 else (ev C b).2 e1
theorem kIt_eq (C : Cal) (a b : IE) (k : Bool) (e1 : En) : kIt C a b k e1 = if k then (ev C a).2 e1 else (ev C b).2 e1 := rfl
theorem v_ife (c a b : IE) : (ev C (.ife c a b)).1 e = ((ev C c).2 e).bind (kIv C a b) := rfl
theorem t_ife (c a b : IE) : (ev C (.ife c a b)).2 e = ((ev C c).2 e).bind (kIt C a b) := rfl
theorem v_seq (a : IE) : (ev C (.seq a)).1 e = (ev C a).1 e := rfl
theorem v_no : (ev C .no).2 e = .ok true e := rfl
def kOs2 (x : Opd) (xs : List Opd) (e2 : En) : Out (List Opd) := .ok (x :: xs) e2
theorem kOs2_eq (x : Opd) (xs : List Opd) (e2 : En) : kOs2 x xs e2 = .ok (x :: xs) e2 := rfl
def kOs1 (C : Cal) (r : IE) (x : Opd) (e1 : En) : Out (List Opd) := (evOs C r e1).bind (kOs2 x)
theorem kOs1_eq (C : Cal) (r : IE) (x : Opd) (e1 : En) : kOs1 C r x e1 = (evOs C r e1).bind (kOs2 x) := rfl
theorem os_nil : evOs C .nil e = .ok [] e := rfl
theorem os_cons (a r : IE) : evOs C (.cons a r) e = (opd a (ev C a).1 e).bind (kOs1 C r) := rfl
def kF2 (x : PV × Fl) (xs : List PV) (e2 : En) : Out (List PV) := .ok (x.1 :: xs) e2
theorem kF2_eq (x : PV × Fl) (xs : List PV) (e2 : En) : kF2 x xs e2 = .ok (x.1 :: xs) e2 := rfl
def kF1 (C : Cal) (r : IE) (x : PV × Fl) (e1 : En) : Out (List PV) := (evF C r e1).bind (kF2 x)
theorem kF1_eq (C : Cal) (r : IE) (x : PV × Fl) (e1 : En) : kF1 C r x e1 = (evF C r e1).bind (kF2 x) := rfl
theorem f_nil : evF C .nil e = .ok [] e := rfl
theorem f_cons (a r : IE) : evF C (.cons a r) e = ((ev C a).1 e).bind (kF1 C r) := rfl
def kG2 (x : PV × Fl) (xs : List Arg) (e2 : En) : Out (List Arg) := .ok (.val x.1 :: xs) e2
theorem kG2_eq (x : PV × Fl) (xs : List Arg) (e2 : En) : kG2 x xs e2 = .ok (.val x.1 :: xs) e2 := rfl
def kG1 (C : Cal) (r : IE) (sg : List Bool) (x : PV × Fl) (e1 : En) : Out (List Arg) := (evArg C r sg e1).bind (kG2 x)
theorem kG1_eq (C : Cal) (r : IE) (sg : List Bool) (x : PV × Fl) (e1 : En) : kG1 C r sg x e1 = (evArg C r sg e1).bind (kG2 x) := rfl
def kG3 (i : Nat) (xs : List Arg) (e2 : En) : Out (List Arg) := .ok (.slot i :: xs) e2
theorem kG3_eq (i : Nat) (xs : List Arg) (e2 : En) : kG3 i xs e2 = .ok (.slot i :: xs) e2 := rfl
theorem g_nil : evArg C .nil [] e = .ok [] e := rfl
theorem g_val (a r : IE) (sg : List Bool) : evArg C (.cons a r) (false :: sg) e = ((ev C a).1 e).bind (kG1 C r sg) := rfl
theorem g_slot (i : Nat) (r : IE) (sg : List Bool) : evArg C (.cons (.var i) r) (true :: sg) e = (match e[i]? with
        | some (some (_, .fz)) => .bad
        | some (some (_, _)) => (evArg C r sg e).bind (kG3 i)
        | _ => .bad) := rfl
def kGt  (x : PV × Fl) (e1 : En) : Out (List Arg) := (match x.2 with
        | .own => .ok [.tmp x.1] e1
        | _ => .bad)
theorem kGt_eq  (x : PV × Fl) (e1 : En) : kGt x e1 = (match x.2 with
        | .own => .ok [.tmp x.1] e1
        | _ => .bad) := rfl
theorem g_tmpc (f : Str) (as : IE) : evArg C (.cons (.call f as) .nil) [true] e = ((ev C (.call f as)).1 e).bind kGt := rfl
theorem o_var (i : Nat) (v : En → Out (PV × Fl)) : opd (.var i) v e = (match e[i]? with
    | some (some _) => .ok (.slot i) e
    | _ => .bad) := rfl
def kIe  (r : PV × Fl) (e1 : En) : Out (List PV) := itO (itemsP r.1) e1
theorem kIe_eq  (r : PV × Fl) (e1 : En) : kIe r e1 = itO (itemsP r.1) e1 := rfl
theorem it_ev (it : IE) : evIt C it e = ((ev C it).1 e).bind kIe := rfl
theorem p_no (v : En → Out (PV × Fl)) : part .no v e = .ok none e := rfl
def kRt  (r : PV × Fl) (e1 : En) : Fo := .ret r e1
theorem kRt_eq  (r : PV × Fl) (e1 : En) : kRt r e1 = .ret r e1 := rfl
theorem r_var (i : Nat) : retE C (.var i) e = (match e[i]? with
    | some (some (p, .own)) => .ret (p, .own) (e.set i none)
    | _ => ((ev C (.var i)).1 e).fo kRt) := rfl
def kV  (r : PV × Fl) (e1 : En) : Out Opd := .ok (.val r.1) e1
theorem kV_eq  (r : PV × Fl) (e1 : En) : kV r e1 = .ok (.val r.1) e1 := rfl
def kPt  (x : Opd) (e1 : En) : Out (Option Int) := (match rsO e1 x with
    | some (.int i) => .ok (some i) e1
    | _ => .bad)
theorem kPt_eq  (x : Opd) (e1 : En) : kPt x e1 = (match rsO e1 x with
    | some (.int i) => .ok (some i) e1
    | _ => .bad) := rfl
theorem o_int (i : Int) (v : En → Out (PV × Fl)) : opd (.int i) v e = (v e).bind kV := rfl
theorem r_int (i : Int) : retE C (.int i) e = ((ev C (.int i)).1 e).fo kRt := rfl
theorem p_int (i : Int) (v : En → Out (PV × Fl)) : part (.int i) v e = (opd (.int i) v e).bind kPt := rfl
theorem o_str (x : Str) (v : En → Out (PV × Fl)) : opd (.str x) v e = (v e).bind kV := rfl
theorem r_str (x : Str) : retE C (.str x) e = ((ev C (.str x)).1 e).fo kRt := rfl
theorem p_str (x : Str) (v : En → Out (PV × Fl)) : part (.str x) v e = (opd (.str x) v e).bind kPt := rfl
theorem o_bl (b : Bool) (v : En → Out (PV × Fl)) : opd (.bl b) v e = (v e).bind kV := rfl
theorem r_bl (b : Bool) : retE C (.bl b) e = ((ev C (.bl b)).1 e).fo kRt := rfl
theorem p_bl (b : Bool) (v : En → Out (PV × Fl)) : part (.bl b) v e = (opd (.bl b) v e).bind kPt := rfl
theorem o_non  (v : En → Out (PV × Fl)) : opd .non v e = (v e).bind kV := rfl
theorem r_non  : retE C .non e = ((ev C .non).1 e).fo kRt := rfl
theorem p_non  (v : En → Out (PV × Fl)) : part .non v e = (opd .non v e).bind kPt := rfl
theorem o_cst (x : Str) (v : En → Out (PV × Fl)) : opd (.cst x) v e = (v e).bind kV := rfl
theorem r_cst (x : Str) : retE C (.cst x) e = ((ev C (.cst x)).1 e).fo kRt := rfl
theorem p_cst (x : Str) (v : En → Out (PV × Fl)) : part (.cst x) v e = (opd (.cst x) v e).bind kPt := rfl
theorem o_fnv (x : Str) (v : En → Out (PV × Fl)) : opd (.fnv x) v e = (v e).bind kV := rfl
theorem r_fnv (x : Str) : retE C (.fnv x) e = ((ev C (.fnv x)).1 e).fo kRt := rfl
theorem p_fnv (x : Str) (v : En → Out (PV × Fl)) : part (.fnv x) v e = (opd (.fnv x) v e).bind kPt := rfl
theorem o_tyv (t : TyN) (v : En → Out (PV × Fl)) : opd (.tyv t) v e = (v e).bind kV := rfl
theorem r_tyv (t : TyN) : retE C (.tyv t) e = ((ev C (.tyv t)).1 e).fo kRt := rfl
theorem p_tyv (t : TyN) (v : En → Out (PV × Fl)) : part (.tyv t) v e = (opd (.tyv t) v e).bind kPt := rfl
theorem o_bin (op : Operator) (a b : IE) (v : En → Out (PV × Fl)) : opd (.bin op a b) v e = (v e).bind kV := rfl
theorem r_bin (op : Operator) (a b : IE) : retE C (.bin op a b) e = ((ev C (.bin op a b)).1 e).fo kRt := rfl
theorem p_bin (op : Operator) (a b : IE) (v : En → Out (PV × Fl)) : part (.bin op a b) v e = (opd (.bin op a b) v e).bind kPt := rfl
theorem o_un (op : UnaryOp) (a : IE) (v : En → Out (PV × Fl)) : opd (.un op a) v e = (v e).bind kV := rfl
theorem r_un (op : UnaryOp) (a : IE) : retE C (.un op a) e = ((ev C (.un op a)).1 e).fo kRt := rfl
theorem p_un (op : UnaryOp) (a : IE) (v : En → Out (PV × Fl)) : part (.un op a) v e = (opd (.un op a) v e).bind kPt := rfl
theorem o_tup (as : IE) (v : En → Out (PV × Fl)) : opd (.tup as) v e = (v e).bind kV := rfl
theorem r_tup (as : IE) : retE C (.tup as) e = ((ev C (.tup as)).1 e).fo kRt := rfl
theorem p_tup (as : IE) (v : En → Out (PV × Fl)) : part (.tup as) v e = (opd (.tup as) v e).bind kPt := rfl
theorem o_lst (as : IE) (v : En → Out (PV × Fl)) : opd (.lst as) v e = (v e).bind kV := rfl
theorem r_lst (as : IE) : retE C (.lst as) e = ((ev C (.lst as)).1 e).fo kRt := rfl
theorem p_lst (as : IE) (v : En → Out (PV × Fl)) : part (.lst as) v e = (opd (.lst as) v e).bind kPt := rfl
theorem o_sub (a b : IE) (v : En → Out (PV × Fl)) : opd (.sub a b) v e = (v e).bind kV := rfl
theorem r_sub (a b : IE) : retE C (.sub a b) e = ((ev C (.sub a b)).1 e).fo kRt := rfl
theorem p_sub (a b : IE) (v : En → Out (PV × Fl)) : part (.sub a b) v e = (opd (.sub a b) v e).bind kPt := rfl
theorem o_slc (a lo hi : IE) (v : En → Out (PV × Fl)) : opd (.slc a lo hi) v e = (v e).bind kV := rfl
theorem r_slc (a lo hi : IE) : retE C (.slc a lo hi) e = ((ev C (.slc a lo hi)).1 e).fo kRt := rfl
theorem p_slc (a lo hi : IE) (v : En → Out (PV × Fl)) : part (.slc a lo hi) v e = (opd (.slc a lo hi) v e).bind kPt := rfl
theorem o_call (f : Str) (as : IE) (v : En → Out (PV × Fl)) : opd (.call f as) v e = (v e).bind kV := rfl
theorem r_call (f : Str) (as : IE) : retE C (.call f as) e = ((ev C (.call f as)).1 e).fo kRt := rfl
theorem p_call (f : Str) (as : IE) (v : En → Out (PV × Fl)) : part (.call f as) v e = (opd (.call f as) v e).bind kPt := rfl
theorem o_callk (f : Str) (n : Nat) (ks : List Str) (ap ak : IE) (v : En → Out (PV × Fl)) : opd (.callk f n ks ap ak) v e = (v e).bind kV := rfl
theorem r_callk (f : Str) (n : Nat) (ks : List Str) (ap ak : IE) : retE C (.callk f n ks ap ak) e = ((ev C (.callk f n ks ap ak)).1 e).fo kRt := rfl
theorem p_callk (f : Str) (n : Nat) (ks : List Str) (ap ak : IE) (v : En → Out (PV × Fl)) : part (.callk f n ks ap ak) v e = (opd (.callk f n ks ap ak) v e).bind kPt := rfl
theorem o_blt (f : Blt) (as : IE) (v : En → Out (PV × Fl)) : opd (.blt f as) v e = (v e).bind kV := rfl
theorem r_blt (f : Blt) (as : IE) : retE C (.blt f as) e = ((ev C (.blt f as)).1 e).fo kRt := rfl
theorem p_blt (f : Blt) (as : IE) (v : En → Out (PV × Fl)) : part (.blt f as) v e = (opd (.blt f as) v e).bind kPt := rfl
theorem o_mth (m : Mth) (o as : IE) (v : En → Out (PV × Fl)) : opd (.mth m o as) v e = (v e).bind kV := rfl
theorem r_mth (m : Mth) (o as : IE) : retE C (.mth m o as) e = ((ev C (.mth m o as)).1 e).fo kRt := rfl
theorem p_mth (m : Mth) (o as : IE) (v : En → Out (PV × Fl)) : part (.mth m o as) v e = (opd (.mth m o as) v e).bind kPt := rfl
theorem o_comp (own : List Nat) (g : IG) (it cond elt : IE) (v : En → Out (PV × Fl)) : opd (.comp own g it cond elt) v e = (v e).bind kV := rfl
theorem r_comp (own : List Nat) (g : IG) (it cond elt : IE) : retE C (.comp own g it cond elt) e = ((ev C (.comp own g it cond elt)).1 e).fo kRt := rfl
theorem p_comp (own : List Nat) (g : IG) (it cond elt : IE) (v : En → Out (PV × Fl)) : part (.comp own g it cond elt) v e = (opd (.comp own g it cond elt) v e).bind kPt := rfl
theorem o_rng (as : IE) (v : En → Out (PV × Fl)) : opd (.rng as) v e = (v e).bind kV := rfl
theorem r_rng (as : IE) : retE C (.rng as) e = ((ev C (.rng as)).1 e).fo kRt := rfl
theorem p_rng (as : IE) (v : En → Out (PV × Fl)) : part (.rng as) v e = (opd (.rng as) v e).bind kPt := rfl
theorem o_enm (a : IE) (v : En → Out (PV × Fl)) : opd (.enm a) v e = (v e).bind kV := rfl
theorem r_enm (a : IE) : retE C (.enm a) e = ((ev C (.enm a)).1 e).fo kRt := rfl
theorem p_enm (a : IE) (v : En → Out (PV × Fl)) : part (.enm a) v e = (opd (.enm a) v e).bind kPt := rfl
theorem o_zip (a b : IE) (v : En → Out (PV × Fl)) : opd (.zip a b) v e = (v e).bind kV := rfl
theorem r_zip (a b : IE) : retE C (.zip a b) e = ((ev C (.zip a b)).1 e).fo kRt := rfl
theorem p_zip (a b : IE) (v : En → Out (PV × Fl)) : part (.zip a b) v e = (opd (.zip a b) v e).bind kPt := rfl
theorem o_cmp (op : CmpOp) (a b : IE) (v : En → Out (PV × Fl)) : opd (.cmp op a b) v e = (v e).bind kV := rfl
theorem r_cmp (op : CmpOp) (a b : IE) : retE C (.cmp op a b) e = ((ev C (.cmp op a b)).1 e).fo kRt := rfl
theorem p_cmp (op : CmpOp) (a b : IE) (v : En → Out (PV × Fl)) : part (.cmp op a b) v e = (opd (.cmp op a b) v e).bind kPt := rfl
theorem o_chn (op op' : CmpOp) (a b c : IE) (v : En → Out (PV × Fl)) : opd (.chn op op' a b c) v e = (v e).bind kV := rfl
theorem r_chn (op op' : CmpOp) (a b c : IE) : retE C (.chn op op' a b c) e = ((ev C (.chn op op' a b c)).1 e).fo kRt := rfl
theorem p_chn (op op' : CmpOp) (a b c : IE) (v : En → Out (PV × Fl)) : part (.chn op op' a b c) v e = (opd (.chn op op' a b c) v e).bind kPt := rfl
theorem o_not (a : IE) (v : En → Out (PV × Fl)) : opd (.not a) v e = (v e).bind kV := rfl
theorem r_not (a : IE) : retE C (.not a) e = ((ev C (.not a)).1 e).fo kRt := rfl
theorem p_not (a : IE) (v : En → Out (PV × Fl)) : part (.not a) v e = (opd (.not a) v e).bind kPt := rfl
theorem o_and (a b : IE) (v : En → Out (PV × Fl)) : opd (.and a b) v e = (v e).bind kV := rfl
theorem r_and (a b : IE) : retE C (.and a b) e = ((ev C (.and a b)).1 e).fo kRt := rfl
theorem p_and (a b : IE) (v : En → Out (PV × Fl)) : part (.and a b) v e = (opd (.and a b) v e).bind kPt := rfl
theorem o_or (a b : IE) (v : En → Out (PV × Fl)) : opd (.or a b) v e = (v e).bind kV := rfl
theorem r_or (a b : IE) : retE C (.or a b) e = ((ev C (.or a b)).1 e).fo kRt := rfl
theorem p_or (a b : IE) (v : En → Out (PV × Fl)) : part (.or a b) v e = (opd (.or a b) v e).bind kPt := rfl
theorem o_ife (c a b : IE) (v : En → Out (PV × Fl)) : opd (.ife c a b) v e = (v e).bind kV := rfl
theorem r_ife (c a b : IE) : retE C (.ife c a b) e = ((ev C (.ife c a b)).1 e).fo kRt := rfl
theorem p_ife (c a b : IE) (v : En → Out (PV × Fl)) : part (.ife c a b) v e = (opd (.ife c a b) v e).bind kPt := rfl
theorem p_var (i : Nat) (v : En → Out (PV × Fl)) : part (.var i) v e = (opd (.var i) v e).bind kPt := rfl
def kT3 (own : List Nat) (p : PV × Fl) (e5 : En) : Out (Option PV) := .ok (some p.1) (wipeE e5 own)
theorem kT3_eq (own : List Nat) (p : PV × Fl) (e5 : En) : kT3 own p e5 = .ok (some p.1) (wipeE e5 own) := rfl
def kT2 (own : List Nat) (elt : En → Out (PV × Fl)) (k : Bool) (e4 : En) : Out (Option PV) := if k then (elt e4).bind (kT3 own) else .ok none (wipeE e4 own)
theorem kT2_eq (own : List Nat) (elt : En → Out (PV × Fl)) (k : Bool) (e4 : En) : kT2 own elt k e4 = if k then (elt e4).bind (kT3 own) else .ok none (wipeE e4 own) := rfl
theorem ct_eq (own : List Nat) (g : IG) (cond : En → Out Bool) (elt : En → Out (PV × Fl)) (x : PV) : compTurnE own g cond elt x e = match setG g x e with
  | none => .bad
  | some e3 => (cond e3).bind (kT2 own elt) := rfl
end
end Bd

namespace Bd
open PySem L2
/-! ### small equations -/
theorem at3_0 (x y z : PV) : atI [x, y, z] 0 = some x := rfl
theorem at3_1 (x y z : PV) : atI [x, y, z] 1 = some y := rfl
theorem at3_2 (x y z : PV) : atI [x, y, z] 2 = some z := rfl
theorem at2_0 (x y : PV) : atI [x, y] 0 = some x := rfl
theorem at2_1 (x y : PV) : atI [x, y] 1 = some y := rfl
theorem len1 (x : PV) : [x].length = 1 := rfl
theorem len2 (x y : PV) : [x, y].length = 2 := rfl
theorem len3 (x y z : PV) : [x, y, z].length = 3 := rfl
theorem len4 (x y z u : PV) : [x, y, z, u].length = 4 := rfl
theorem ixN3_0 : ixN 3 0 = some 0 := rfl
theorem ixN3_1 : ixN 3 1 = some 1 := rfl
theorem ixN3_2 : ixN 3 2 = some 2 := rfl
theorem ix_lst (xs : List PV) (i : Int) : ixP (.lst xs) (.int i) = atI xs i := rfl
theorem ix_tup (xs : List PV) (i : Int) : ixP (.tup xs) (.int i) = atI xs i := rfl
theorem mul_r (i j : Int) (h : smallI j = true) : binP .Mult (.int i) (.int j) = some (.int (i * j)) := by
  show (if (smallI i || smallI j) = true then _ else _) = _
  rw [h, Bool.or_true, if_pos rfl]
theorem mul_l (i j : Int) (h : smallI i = true) : binP .Mult (.int i) (.int j) = some (.int (i * j)) := by
  show (if (smallI i || smallI j) = true then _ else _) = _
  rw [h, Bool.true_or, if_pos rfl]
theorem mod_p (i j : Int) (h : 0 < j) : binP .Mod (.int i) (.int j) = some (.int (i % j)) := if_pos h
theorem div_p (i j : Int) (h : 0 < j) (h2 : j < 1073741824) : binP .FloorDiv (.int i) (.int j) = some (.int (i / j)) := if_pos ⟨h, h2⟩
theorem add_p (i j : Int) : binP .Add (.int i) (.int j) = some (.int (i + j)) := rfl
theorem sub_p (i j : Int) : binP .Sub (.int i) (.int j) = some (.int (i - j)) := rfl
theorem small_of {i : Int} (h : -(2 ^ 64) < i) (h2 : i < 2 ^ 64) : smallI i = true := by
  unfold smallI; rw [decide_eq_true h, decide_eq_true h2]; rfl
theorem gt_ii (i j : Int) : cmpP .Gt (.int i) (.int j) = some (decide (j < i)) := rfl
theorem blt_int (i : Int) : bltP .int [.int i] = some (.int i) := rfl
theorem blt_len_l (xs : List PV) : bltP .len [.lst xs] = some (.int xs.length) := rfl
theorem sz0 : (([] : List PV).length ≤ sizeLine) = True := eq_true (by show 0 ≤ sizeLine; decide +kernel)
theorem sz1 (x0 : PV) : ([x0].length ≤ sizeLine) = True := eq_true (by show 1 ≤ sizeLine; decide +kernel)
theorem sz2 (x0 x1 : PV) : ([x0, x1].length ≤ sizeLine) = True := eq_true (by show 2 ≤ sizeLine; decide +kernel)
theorem sz3 (x0 x1 x2 : PV) : ([x0, x1, x2].length ≤ sizeLine) = True := eq_true (by show 3 ≤ sizeLine; decide +kernel)
theorem sz4 (x0 x1 x2 x3 : PV) : ([x0, x1, x2, x3].length ≤ sizeLine) = True := eq_true (by show 4 ≤ sizeLine; decide +kernel)
theorem sz5 (x0 x1 x2 x3 x4 : PV) : ([x0, x1, x2, x3, x4].length ≤ sizeLine) = True := eq_true (by show 5 ≤ sizeLine; decide +kernel)
theorem sz6 (x0 x1 x2 x3 x4 x5 : PV) : ([x0, x1, x2, x3, x4, x5].length ≤ sizeLine) = True := eq_true (by show 6 ≤ sizeLine; decide +kernel)
theorem sz7 (x0 x1 x2 x3 x4 x5 x6 : PV) : ([x0, x1, x2, x3, x4, x5, x6].length ≤ sizeLine) = True := eq_true (by show 7 ≤ sizeLine; decide +kernel)
theorem sz8 (x0 x1 x2 x3 x4 x5 x6 x7 : PV) : ([x0, x1, x2, x3, x4, x5, x6, x7].length ≤ sizeLine) = True := eq_true (by show 8 ≤ sizeLine; decide +kernel)
theorem sz9 (x0 x1 x2 x3 x4 x5 x6 x7 x8 : PV) : ([x0, x1, x2, x3, x4, x5, x6, x7, x8].length ≤ sizeLine) = True := eq_true (by show 9 ≤ sizeLine; decide +kernel)
theorem sz10 (x0 x1 x2 x3 x4 x5 x6 x7 x8 x9 : PV) : ([x0, x1, x2, x3, x4, x5, x6, x7, x8, x9].length ≤ sizeLine) = True := eq_true (by show 10 ≤ sizeLine; decide +kernel)
theorem sz11 (x0 x1 x2 x3 x4 x5 x6 x7 x8 x9 x10 : PV) : ([x0, x1, x2, x3, x4, x5, x6, x7, x8, x9, x10].length ≤ sizeLine) = True := eq_true (by show 11 ≤ sizeLine; decide +kernel)
theorem sz12 (x0 x1 x2 x3 x4 x5 x6 x7 x8 x9 x10 x11 : PV) : ([x0, x1, x2, x3, x4, x5, x6, x7, x8, x9, x10, x11].length ≤ sizeLine) = True := eq_true (by show 12 ≤ sizeLine; decide +kernel)
theorem sz13 (x0 x1 x2 x3 x4 x5 x6 x7 x8 x9 x10 x11 x12 : PV) : ([x0, x1, x2, x3, x4, x5, x6, x7, x8, x9, x10, x11, x12].length ≤ sizeLine) = True := eq_true (by show 13 ≤ sizeLine; decide +kernel)
theorem sz14 (x0 x1 x2 x3 x4 x5 x6 x7 x8 x9 x10 x11 x12 x13 : PV) : ([x0, x1, x2, x3, x4, x5, x6, x7, x8, x9, x10, x11, x12, x13].length ≤ sizeLine) = True := eq_true (by show 14 ≤ sizeLine; decide +kernel)
theorem sz15 (x0 x1 x2 x3 x4 x5 x6 x7 x8 x9 x10 x11 x12 x13 x14 : PV) : ([x0, x1, x2, x3, x4, x5, x6, x7, x8, x9, x10, x11, x12, x13, x14].length ≤ sizeLine) = True := eq_true (by show 15 ≤ sizeLine; decide +kernel)
theorem sz16 (x0 x1 x2 x3 x4 x5 x6 x7 x8 x9 x10 x11 x12 x13 x14 x15 : PV) : ([x0, x1, x2, x3, x4, x5, x6, x7, x8, x9, x10, x11, x12, x13, x14, x15].length ≤ sizeLine) = True := eq_true (by show 16 ≤ sizeLine; decide +kernel)
theorem sz17 (x0 x1 x2 x3 x4 x5 x6 x7 x8 x9 x10 x11 x12 x13 x14 x15 x16 : PV) : ([x0, x1, x2, x3, x4, x5, x6, x7, x8, x9, x10, x11, x12, x13, x14, x15, x16].length ≤ sizeLine) = True := eq_true (by show 17 ≤ sizeLine; decide +kernel)
theorem sz18 (x0 x1 x2 x3 x4 x5 x6 x7 x8 x9 x10 x11 x12 x13 x14 x15 x16 x17 : PV) : ([x0, x1, x2, x3, x4, x5, x6, x7, x8, x9, x10, x11, x12, x13, x14, x15, x16, x17].length ≤ sizeLine) = True := eq_true (by show 18 ≤ sizeLine; decide +kernel)
theorem sz19 (x0 x1 x2 x3 x4 x5 x6 x7 x8 x9 x10 x11 x12 x13 x14 x15 x16 x17 x18 : PV) : ([x0, x1, x2, x3, x4, x5, x6, x7, x8, x9, x10, x11, x12, x13, x14, x15, x16, x17, x18].length ≤ sizeLine) = True := eq_true (by show 19 ≤ sizeLine; decide +kernel)
theorem sz20 (x0 x1 x2 x3 x4 x5 x6 x7 x8 x9 x10 x11 x12 x13 x14 x15 x16 x17 x18 x19 : PV) : ([x0, x1, x2, x3, x4, x5, x6, x7, x8, x9, x10, x11, x12, x13, x14, x15, x16, x17, x18, x19].length ≤ sizeLine) = True := eq_true (by show 20 ≤ sizeLine; decide +kernel)
/-! ### drawing -/
def takeB : IS := (.seq (.ife (.cmp .Gt (.sub (.var 0) (.int 0)) (.int 0))
 (.seq (.asg 2 (.bin .Mod (.blt .int (.cons (.sub (.var 0) (.int 0)) .nil)) (.var 1)))
 (.seq (.seti 0 (.int 0) (.bin .FloorDiv (.sub (.var 0) (.int 0)) (.var 1)))
 (.seq (.ret (.var 2)) .nil))) .nil)
 (.seq (.seti 0 (.int 2) (.bin .Add (.sub (.var 0) (.int 2)) (.int 1)))
 (.seq (.asg 3 (.bin .Mod (.blt .int (.cons (.bin .Mult (.bin .Add (.sub (.var 0) (.int 1)) (.bin .Mult (.int 48271) (.sub (.var 0) (.int 2)))) (.bin .Add (.int 39373) (.sub (.var 0) (.int 2)))) .nil)) (.int 2147483647)))
 (.seq (.asg 4 (.bin .Add (.bin .Mod (.blt .int (.cons (.var 3) .nil)) (.int 40009)) (.int 7)))
 (.seq (.asg 5 (.bin .Mod (.blt .int (.cons (.bin .Mult (.bin .Add (.bin .Add (.var 3) (.sub (.var 0) (.int 2))) (.bin .FloorDiv (.sub (.var 0) (.int 1)) (.int 1000003))) (.var 4)) .nil)) (.int 2147483629)))
 (.seq (.ret (.bin .Mod (.blt .int (.cons (.bin .FloorDiv (.bin .Mod (.blt .int (.cons (.bin .Add (.bin .Mult (.var 5) (.int 48271)) (.var 3)) .nil)) (.int 2147483587)) (.int 64)) .nil)) (.var 1))) .nil))))))
theorem take_a (C : Cal) (a b c low : Int) (h1 : 0 < low) (h2 : low < 1073741824) (ha : 0 < a) :
    exec C takeB [some (.lst [.int a, .int b, .int c], .bor), some (.int low, .fz), none, none, none, none] = .ret (.int (a % low), .fz) [some (.lst [.int (a / low), .int b, .int c], .bor), some (.int low, .fz), some (.int (a % low), .fz), none, none, none] := by
  unfold takeB
  simp only [bd_ok, bd_exc, bd_bad, fo_ok, fo_exc, th_nx, th_ret, th_exc, th_brk, th_cnt, tk_nx, tk_cnt, tk_brk, tk_ret, tk_exc, x_nil, x_seq, kAsg_eq, x_asg, kUnp_eq, x_unp, kPar_eq, x_par, kSet2_eq, kSet1_eq, x_seti, kApp_eq, x_app, kExpr_eq, x_expr, x_ret, x_retN, kIf_eq, x_ife, kLoop_eq, x_loop, x_whl, kWh_eq, x_brk, x_cnt, x_pass, kCl2_eq, kCl1_eq, kTr_eq, kB2_eq, kB1_eq, kU_eq, kTup_eq, kLst_eq, kS2_eq, kS1_eq, kC3_eq, kC2_eq, kC1_eq, kCall_eq, kK2_eq, kK1_eq, kBl_eq, kM2_eq, kM1_eq, kCo_eq, kRg_eq, kEn_eq, kZ2_eq, kZ1_eq, v_int, t_int, v_str, t_str, v_bl, t_bl, v_non, t_non, v_cst, t_cst, v_fnv, t_fnv, v_tyv, t_tyv, v_bin, t_bin, v_un, t_un, v_tup, t_tup, v_lst, t_lst, v_sub, t_sub, v_slc, t_slc, v_call, t_call, v_callk, t_callk, v_blt, t_blt, v_mth, t_mth, v_comp, t_comp, v_rng, t_rng, v_enm, t_enm, v_zip, t_zip, kVb_eq, kQ2_eq, kQ1_eq, kH4_eq, kH3_eq, kH2_eq, kH1_eq, v_cmp, t_cmp, v_chn, t_chn, v_var, t_var, kN2_eq, kN1_eq, kNt_eq, v_not, t_not, kAn_eq, kAt_eq, v_and, t_and, kOn_eq, kOt_eq, v_or, t_or, kIv_eq, kIt_eq, v_ife, t_ife, v_seq, v_no, kOs2_eq, kOs1_eq, os_nil, os_cons, kF2_eq, kF1_eq, f_nil, f_cons, kG2_eq, kG1_eq, kG3_eq, g_nil, g_val, g_slot, kGt_eq, g_tmpc, o_var, kIe_eq, it_ev, p_no, kRt_eq, r_var, kV_eq, kPt_eq, o_int, r_int, p_int, o_str, r_str, p_str, o_bl, r_bl, p_bl, o_non, r_non, p_non, o_cst, r_cst, p_cst, o_fnv, r_fnv, p_fnv, o_tyv, r_tyv, p_tyv, o_bin, r_bin, p_bin, o_un, r_un, p_un, o_tup, r_tup, p_tup, o_lst, r_lst, p_lst, o_sub, r_sub, p_sub, o_slc, r_slc, p_slc, o_call, r_call, p_call, o_callk, r_callk, p_callk, o_blt, r_blt, p_blt, o_mth, r_mth, p_mth, o_comp, r_comp, p_comp, o_rng, r_rng, p_rng, o_enm, r_enm, p_enm, o_zip, r_zip, p_zip, o_cmp, r_cmp, p_cmp, o_chn, r_chn, p_chn, o_not, r_not, p_not, o_and, r_and, p_and, o_or, r_or, p_or, o_ife, r_ife, p_ife, p_var, kT3_eq, kT2_eq, evVar, tsVar, liftO, liftB, flOf, fzO, okIf, cmp2, rsO, rsOs, unP, truth, lstAt, argV, argVs, slotsOf, argBack, setP, itO, itemsP, setPar, isNonP, kindO, seqOf, ownFz, wipeE, unwipe, consO, enmP, zipP, List.all_cons, List.all_nil, Bool.and_true, Bool.true_and, Bool.and_self, Option.bind_some, Option.map_some, List.getElem?_cons_zero, List.getElem?_cons_succ, List.set_cons_zero, List.set_cons_succ, Option.isSome_some, if_true, if_false, ite_true, ite_false, decide_true, decide_false, Bool.not_true, Bool.not_false, reduceIte, Bool.false_eq_true, gt_ii, blt_int, ix_lst, at3_0, at3_1, at3_2, mod_p _ _ h1, div_p _ _ h1 h2, ha, setItemE, len3, ixN3_0, ixN3_2, sz0, sz1, sz2, sz3, sz4, sz5, sz6, sz7, sz8, sz9, sz10, sz11, sz12, sz13, sz14, sz15, sz16, sz17, sz18, sz19, sz20]
def tk1 (b c : Int) : Int := ((b + 48271 * (c + 1)) * (39373 + (c + 1))) % 2147483647
def tk2 (b c : Int) : Int := tk1 b c % 40009 + 7
def tk3 (b c : Int) : Int := ((tk1 b c + (c + 1) + b / 1000003) * tk2 b c) % 2147483629
theorem take_b (C : Cal) (a b c low : Int) (h1 : 0 < low) (ha : ¬ 0 < a) (hc : smallI (39373 + (c + 1)) = true) :
    exec C takeB [some (.lst [.int a, .int b, .int c], .bor), some (.int low, .fz), none, none, none, none] = .ret (.int ((tk3 b c * 48271 + tk1 b c) % 2147483587 / 64 % low), .fz) [some (.lst [.int a, .int b, .int (c + 1)], .bor), some (.int low, .fz), none, some (.int (tk1 b c), .fz), some (.int (tk2 b c), .fz), some (.int (tk3 b c), .fz)] := by
  have k1 : ∀ i : Int, smallI (i % 40009 + 7) = true := fun i => small_of (by have := Int.emod_nonneg i (by decide : (40009 : Int) ≠ 0); omega) (by have := Int.emod_lt_of_pos i (by decide : (0 : Int) < 40009); omega)
  unfold takeB
  simp only [bd_ok, bd_exc, bd_bad, fo_ok, fo_exc, th_nx, th_ret, th_exc, th_brk, th_cnt, tk_nx, tk_cnt, tk_brk, tk_ret, tk_exc, x_nil, x_seq, kAsg_eq, x_asg, kUnp_eq, x_unp, kPar_eq, x_par, kSet2_eq, kSet1_eq, x_seti, kApp_eq, x_app, kExpr_eq, x_expr, x_ret, x_retN, kIf_eq, x_ife, kLoop_eq, x_loop, x_whl, kWh_eq, x_brk, x_cnt, x_pass, kCl2_eq, kCl1_eq, kTr_eq, kB2_eq, kB1_eq, kU_eq, kTup_eq, kLst_eq, kS2_eq, kS1_eq, kC3_eq, kC2_eq, kC1_eq, kCall_eq, kK2_eq, kK1_eq, kBl_eq, kM2_eq, kM1_eq, kCo_eq, kRg_eq, kEn_eq, kZ2_eq, kZ1_eq, v_int, t_int, v_str, t_str, v_bl, t_bl, v_non, t_non, v_cst, t_cst, v_fnv, t_fnv, v_tyv, t_tyv, v_bin, t_bin, v_un, t_un, v_tup, t_tup, v_lst, t_lst, v_sub, t_sub, v_slc, t_slc, v_call, t_call, v_callk, t_callk, v_blt, t_blt, v_mth, t_mth, v_comp, t_comp, v_rng, t_rng, v_enm, t_enm, v_zip, t_zip, kVb_eq, kQ2_eq, kQ1_eq, kH4_eq, kH3_eq, kH2_eq, kH1_eq, v_cmp, t_cmp, v_chn, t_chn, v_var, t_var, kN2_eq, kN1_eq, kNt_eq, v_not, t_not, kAn_eq, kAt_eq, v_and, t_and, kOn_eq, kOt_eq, v_or, t_or, kIv_eq, kIt_eq, v_ife, t_ife, v_seq, v_no, kOs2_eq, kOs1_eq, os_nil, os_cons, kF2_eq, kF1_eq, f_nil, f_cons, kG2_eq, kG1_eq, kG3_eq, g_nil, g_val, g_slot, kGt_eq, g_tmpc, o_var, kIe_eq, it_ev, p_no, kRt_eq, r_var, kV_eq, kPt_eq, o_int, r_int, p_int, o_str, r_str, p_str, o_bl, r_bl, p_bl, o_non, r_non, p_non, o_cst, r_cst, p_cst, o_fnv, r_fnv, p_fnv, o_tyv, r_tyv, p_tyv, o_bin, r_bin, p_bin, o_un, r_un, p_un, o_tup, r_tup, p_tup, o_lst, r_lst, p_lst, o_sub, r_sub, p_sub, o_slc, r_slc, p_slc, o_call, r_call, p_call, o_callk, r_callk, p_callk, o_blt, r_blt, p_blt, o_mth, r_mth, p_mth, o_comp, r_comp, p_comp, o_rng, r_rng, p_rng, o_enm, r_enm, p_enm, o_zip, r_zip, p_zip, o_cmp, r_cmp, p_cmp, o_chn, r_chn, p_chn, o_not, r_not, p_not, o_and, r_and, p_and, o_or, r_or, p_or, o_ife, r_ife, p_ife, p_var, kT3_eq, kT2_eq, evVar, tsVar, liftO, liftB, flOf, fzO, okIf, cmp2, rsO, rsOs, unP, truth, lstAt, argV, argVs, slotsOf, argBack, setP, itO, itemsP, setPar, isNonP, kindO, seqOf, ownFz, wipeE, unwipe, consO, enmP, zipP, List.all_cons, List.all_nil, Bool.and_true, Bool.true_and, Bool.and_self, Option.bind_some, Option.map_some, List.getElem?_cons_zero, List.getElem?_cons_succ, List.set_cons_zero, List.set_cons_succ, Option.isSome_some, if_true, if_false, ite_true, ite_false, decide_true, decide_false, Bool.not_true, Bool.not_false, reduceIte, Bool.false_eq_true, gt_ii, blt_int, ix_lst, at3_0, at3_1, at3_2, add_p, mul_l 48271 _ rfl, mul_r _ 48271 rfl, mul_r _ _ hc, mul_r _ _ (k1 _), mod_p _ _ h1, mod_p _ 2147483647 (by decide), mod_p _ 40009 (by decide), mod_p _ 2147483629 (by decide), mod_p _ 2147483587 (by decide), div_p _ 64 (by decide) (by decide), div_p _ 1000003 (by decide) (by decide), ha, setItemE, len3, ixN3_0, ixN3_2, sz0, sz1, sz2, sz3, sz4, sz5, sz6, sz7, sz8, sz9, sz10, sz11, sz12, sz13, sz14, sz15, sz16, sz17, sz18, sz19, sz20]
  rfl
/-- a box of draws: so many draws are still sure -/
def Bx (m : Nat) (p : PV) : Prop := ∃ a b c : Int, p = .lst [.int a, .int b, .int c] ∧ 0 ≤ c ∧ c + m < 2 ^ 62
theorem Bx.mono {m k : Nat} {p : PV} (h : Bx m p) (hk : k ≤ m) : Bx k p := by
  obtain ⟨a, b, c, h1, h2, h3⟩ := h
  exact ⟨a, b, c, h1, h2, by omega⟩
theorem take_ok {C : Cal} {d : FD} (hb : d.body = takeB) (hN : d.N.length = 6) (hs : d.sg = [true, false]) {m : Nat} {p : PV} {low : Int} (hp : Bx (m + 1) p) (h1 : 0 < low) (h2 : low < 1073741824) :
    ∃ (r : Int) (q : PV), runF C (some d) [p, .int low] = .ok (.int r, .fz) [q] ∧ 0 ≤ r ∧ r < low ∧ Bx m q := by
  obtain ⟨a, b, c, rfl, h3, h4⟩ := hp
  have e : runF C (some d) [.lst [.int a, .int b, .int c], .int low] = finish [true, false] (exec C takeB [some (.lst [.int a, .int b, .int c], .bor), some (.int low, .fz), none, none, none, none]) := by
    show finish d.sg (exec C d.body (startE d _)) = _
    unfold startE
    rw [hb, hs, hN]; rfl
  have nn : ∀ i : Int, 0 ≤ i % low := fun i => Int.emod_nonneg i (Int.ne_of_gt h1)
  have lt : ∀ i : Int, i % low < low := fun i => Int.emod_lt_of_pos i h1
  by_cases ha : 0 < a
  · rw [e, take_a C a b c low h1 h2 ha]
    exact ⟨_, _, rfl, nn _, lt _, a / low, b, c, rfl, h3, by omega⟩
  · rw [e, take_b C a b c low h1 ha (small_of (by omega) (by omega))]
    exact ⟨_, _, rfl, nn _, lt _, a, b, c + 1, rfl, by omega, by omega⟩
/-- what a caller knows of drawing -/
structure TakeOk (C : Cal) : Prop where
  sig : C.sig "_law_take" = some [true, false]
  run : ∀ (m : Nat) (p : PV) (low : Int), Bx (m + 1) p → 0 < low → low < 1073741824 → ∃ (r : Int) (q : PV), C.run "_law_take" [p, .int low] = .ok (.int r, .fz) [q] ∧ 0 ≤ r ∧ r < low ∧ Bx m q
theorem nd0 : ([] : List Nat).Nodup = True := eq_true List.nodup_nil
theorem nd1 (i : Nat) : [i].Nodup = True := eq_true (by simp)
theorem at_in {xs : List PV} {r : Int} (h : 0 ≤ r) (h2 : r < xs.length) : ∃ x, x ∈ xs ∧ atI xs r = some x := by
  have hn : r.toNat < xs.length := by omega
  refine ⟨xs[r.toNat], List.getElem_mem hn, ?_⟩
  unfold atI ixN
  rw [if_pos h, if_pos h2]
  exact List.getElem?_eq_getElem hn
def ofB : IS := (.seq (.ret (.sub (.var 1) (.call "_law_take" (.cons (.var 0) (.cons (.blt .len (.cons (.var 1) .nil)) .nil))))) .nil)
theorem of_run {C : Cal} (hT : TakeOk C) {m : Nat} {p : PV} {xs : List PV} (hp : Bx (m + 1) p) (h1 : 0 < xs.length) (h2 : xs.length < 1073741824) :
    ∃ x q, x ∈ xs ∧ Bx m q ∧ exec C ofB [some (p, .bor), some (.lst xs, .fz)] = .ret (x, .fz) [some (q, .bor), some (.lst xs, .fz)] := by
  obtain ⟨r, q, e, r1, r2, hq⟩ := hT.run m p xs.length hp (by omega) (by omega)
  obtain ⟨x, hx, ex⟩ := at_in r1 r2
  refine ⟨x, q, hx, hq, ?_⟩
  have sg := hT.sig
  unfold ofB
  simp only [bd_ok, bd_exc, bd_bad, fo_ok, fo_exc, th_nx, th_ret, th_exc, th_brk, th_cnt, tk_nx, tk_cnt, tk_brk, tk_ret, tk_exc, x_nil, x_seq, kAsg_eq, x_asg, kUnp_eq, x_unp, kPar_eq, x_par, kSet2_eq, kSet1_eq, x_seti, kApp_eq, x_app, kExpr_eq, x_expr, x_ret, x_retN, kIf_eq, x_ife, kLoop_eq, x_loop, x_whl, kWh_eq, x_brk, x_cnt, x_pass, kCl2_eq, kCl1_eq, kTr_eq, kB2_eq, kB1_eq, kU_eq, kTup_eq, kLst_eq, kS2_eq, kS1_eq, kC3_eq, kC2_eq, kC1_eq, kCall_eq, kK2_eq, kK1_eq, kBl_eq, kM2_eq, kM1_eq, kCo_eq, kRg_eq, kEn_eq, kZ2_eq, kZ1_eq, v_int, t_int, v_str, t_str, v_bl, t_bl, v_non, t_non, v_cst, t_cst, v_fnv, t_fnv, v_tyv, t_tyv, v_bin, t_bin, v_un, t_un, v_tup, t_tup, v_lst, t_lst, v_sub, t_sub, v_slc, t_slc, v_call, t_call, v_callk, t_callk, v_blt, t_blt, v_mth, t_mth, v_comp, t_comp, v_rng, t_rng, v_enm, t_enm, v_zip, t_zip, kVb_eq, kQ2_eq, kQ1_eq, kH4_eq, kH3_eq, kH2_eq, kH1_eq, v_cmp, t_cmp, v_chn, t_chn, v_var, t_var, kN2_eq, kN1_eq, kNt_eq, v_not, t_not, kAn_eq, kAt_eq, v_and, t_and, kOn_eq, kOt_eq, v_or, t_or, kIv_eq, kIt_eq, v_ife, t_ife, v_seq, v_no, kOs2_eq, kOs1_eq, os_nil, os_cons, kF2_eq, kF1_eq, f_nil, f_cons, kG2_eq, kG1_eq, kG3_eq, g_nil, g_val, g_slot, kGt_eq, g_tmpc, o_var, kIe_eq, it_ev, p_no, kRt_eq, r_var, kV_eq, kPt_eq, o_int, r_int, p_int, o_str, r_str, p_str, o_bl, r_bl, p_bl, o_non, r_non, p_non, o_cst, r_cst, p_cst, o_fnv, r_fnv, p_fnv, o_tyv, r_tyv, p_tyv, o_bin, r_bin, p_bin, o_un, r_un, p_un, o_tup, r_tup, p_tup, o_lst, r_lst, p_lst, o_sub, r_sub, p_sub, o_slc, r_slc, p_slc, o_call, r_call, p_call, o_callk, r_callk, p_callk, o_blt, r_blt, p_blt, o_mth, r_mth, p_mth, o_comp, r_comp, p_comp, o_rng, r_rng, p_rng, o_enm, r_enm, p_enm, o_zip, r_zip, p_zip, o_cmp, r_cmp, p_cmp, o_chn, r_chn, p_chn, o_not, r_not, p_not, o_and, r_and, p_and, o_or, r_or, p_or, o_ife, r_ife, p_ife, p_var, kT3_eq, kT2_eq, evVar, tsVar, liftO, liftB, flOf, fzO, okIf, cmp2, rsO, rsOs, unP, truth, lstAt, argV, argVs, slotsOf, argBack, setP, itO, itemsP, setPar, isNonP, kindO, seqOf, ownFz, wipeE, unwipe, consO, enmP, zipP, List.all_cons, List.all_nil, Bool.and_true, Bool.true_and, Bool.and_self, Option.bind_some, Option.map_some, List.getElem?_cons_zero, List.getElem?_cons_succ, List.set_cons_zero, List.set_cons_succ, Option.isSome_some, if_true, if_false, ite_true, ite_false, decide_true, decide_false, Bool.not_true, Bool.not_false, reduceIte, Bool.false_eq_true, blt_len_l, sg, e, ex, doCall, nd1, nd0, ix_lst, sz0, sz1, sz2, sz3, sz4, sz5, sz6, sz7, sz8, sz9, sz10, sz11, sz12, sz13, sz14, sz15, sz16, sz17, sz18, sz19, sz20]
structure OfOk (C : Cal) : Prop where
  sig : C.sig "_law_of" = some [true, false]
  run : ∀ (m : Nat) (p : PV) (xs : List PV), Bx (m + 1) p → 0 < xs.length → xs.length < 1073741824 → ∃ x q, x ∈ xs ∧ Bx m q ∧ C.run "_law_of" [p, .lst xs] = .ok (x, .fz) [q]
theorem of_ok {C : Cal} {d : FD} (hT : TakeOk C) (hb : d.body = ofB) (hN : d.N.length = 2) (hs : d.sg = [true, false]) {m : Nat} {p : PV} {xs : List PV} (hp : Bx (m + 1) p) (h1 : 0 < xs.length) (h2 : xs.length < 1073741824) :
    ∃ x q, x ∈ xs ∧ Bx m q ∧ runF C (some d) [p, .lst xs] = .ok (x, .fz) [q] := by
  obtain ⟨x, q, hx, hq, e⟩ := of_run hT hp h1 h2
  refine ⟨x, q, hx, hq, ?_⟩
  show finish d.sg (exec C d.body (startE d _)) = _
  unfold startE
  rw [hb, hs, hN]
  show finish _ (exec C ofB [some (p, .bor), some (.lst xs, .fz)]) = _
  rw [e]; rfl
/-! ### what is the same is the same -/
/-- values of plain kinds -/
def sameB : IS := (.seq (.ife (.blt .isinstance (.cons (.var 1) (.cons (.tup (.cons (.tyv .list) (.cons (.tyv .tuple) .nil))) .nil)))
 (.seq (.ife (.or (.cmp .NotEq (.blt .isinstance (.cons (.var 0) (.cons (.tyv .list) .nil))) (.blt .isinstance (.cons (.var 1) (.cons (.tyv .list) .nil)))) (.cmp .NotEq (.blt .isinstance (.cons (.var 0) (.cons (.tyv .tuple) .nil))) (.blt .isinstance (.cons (.var 1) (.cons (.tyv .tuple) .nil)))))
 (.seq (.ret (.bl false)) .nil) .nil)
 (.seq (.ret (.and (.cmp .Eq (.blt .len (.cons (.var 0) .nil)) (.blt .len (.cons (.var 1) .nil))) (.blt .all (.cons (.comp [2, 3] (.tup [2, 3]) (.zip (.var 0) (.var 1)) .no (.call "_law_same" (.cons (.var 2) (.cons (.var 3) .nil)))) .nil)))) .nil)) .nil)
 (.seq (.ife (.or (.cmp .Is (.var 1) .non) (.blt .isinstance (.cons (.var 1) (.cons (.tup (.cons (.tyv .bool) (.cons (.tyv .str) .nil))) .nil))))
 (.seq (.ret (.and (.cmp .Eq (.var 0) (.var 1)) (.and (.cmp .Eq (.blt .isinstance (.cons (.var 0) (.cons (.tyv .bool) .nil))) (.blt .isinstance (.cons (.var 1) (.cons (.tyv .bool) .nil)))) (.cmp .Eq (.cmp .Is (.var 0) .non) (.cmp .Is (.var 1) .non))))) .nil) .nil)
 (.seq (.ret (.and (.blt .isinstance (.cons (.var 0) (.cons (.tyv .int) .nil))) (.and (.not (.blt .isinstance (.cons (.var 0) (.cons (.tyv .bool) .nil)))) (.cmp .Eq (.var 0) (.var 1))))) .nil)))
theorem isi_n_list  : isiP .non (.ty .list) = some false := rfl
theorem isi_n_tuple  : isiP .non (.ty .tuple) = some false := rfl
theorem isi_n_bool  : isiP .non (.ty .bool) = some false := rfl
theorem isi_n_str  : isiP .non (.ty .str) = some false := rfl
theorem isi_n_int  : isiP .non (.ty .int) = some false := rfl
theorem isi_n_lt  : isiP .non (.tup [.ty .list, .ty .tuple]) = some false := rfl
theorem isi_n_bs  : isiP .non (.tup [.ty .bool, .ty .str]) = some false := rfl
theorem isN_n  : cmpP .Is .non .non = some true := rfl
theorem isnN_n  : cmpP .IsNot .non .non = some false := rfl
theorem isi_b_list (b : Bool) : isiP (.bl b) (.ty .list) = some false := rfl
theorem isi_b_tuple (b : Bool) : isiP (.bl b) (.ty .tuple) = some false := rfl
theorem isi_b_bool (b : Bool) : isiP (.bl b) (.ty .bool) = some true := rfl
theorem isi_b_str (b : Bool) : isiP (.bl b) (.ty .str) = some false := rfl
theorem isi_b_int (b : Bool) : isiP (.bl b) (.ty .int) = some true := rfl
theorem isi_b_lt (b : Bool) : isiP (.bl b) (.tup [.ty .list, .ty .tuple]) = some false := rfl
theorem isi_b_bs (b : Bool) : isiP (.bl b) (.tup [.ty .bool, .ty .str]) = some true := rfl
theorem isN_b (b : Bool) : cmpP .Is (.bl b) .non = some false := rfl
theorem isnN_b (b : Bool) : cmpP .IsNot (.bl b) .non = some true := rfl
theorem isi_i_list (i : Int) : isiP (.int i) (.ty .list) = some false := rfl
theorem isi_i_tuple (i : Int) : isiP (.int i) (.ty .tuple) = some false := rfl
theorem isi_i_bool (i : Int) : isiP (.int i) (.ty .bool) = some false := rfl
theorem isi_i_str (i : Int) : isiP (.int i) (.ty .str) = some false := rfl
theorem isi_i_int (i : Int) : isiP (.int i) (.ty .int) = some true := rfl
theorem isi_i_lt (i : Int) : isiP (.int i) (.tup [.ty .list, .ty .tuple]) = some false := rfl
theorem isi_i_bs (i : Int) : isiP (.int i) (.tup [.ty .bool, .ty .str]) = some false := rfl
theorem isN_i (i : Int) : cmpP .Is (.int i) .non = some false := rfl
theorem isnN_i (i : Int) : cmpP .IsNot (.int i) .non = some true := rfl
theorem isi_s_list (x : Str) : isiP (.str x) (.ty .list) = some false := rfl
theorem isi_s_tuple (x : Str) : isiP (.str x) (.ty .tuple) = some false := rfl
theorem isi_s_bool (x : Str) : isiP (.str x) (.ty .bool) = some false := rfl
theorem isi_s_str (x : Str) : isiP (.str x) (.ty .str) = some true := rfl
theorem isi_s_int (x : Str) : isiP (.str x) (.ty .int) = some false := rfl
theorem isi_s_lt (x : Str) : isiP (.str x) (.tup [.ty .list, .ty .tuple]) = some false := rfl
theorem isi_s_bs (x : Str) : isiP (.str x) (.tup [.ty .bool, .ty .str]) = some true := rfl
theorem isN_s (x : Str) : cmpP .Is (.str x) .non = some false := rfl
theorem isnN_s (x : Str) : cmpP .IsNot (.str x) .non = some true := rfl
theorem isi_l_list (xs : List PV) : isiP (.lst xs) (.ty .list) = some true := rfl
theorem isi_l_tuple (xs : List PV) : isiP (.lst xs) (.ty .tuple) = some false := rfl
theorem isi_l_bool (xs : List PV) : isiP (.lst xs) (.ty .bool) = some false := rfl
theorem isi_l_str (xs : List PV) : isiP (.lst xs) (.ty .str) = some false := rfl
theorem isi_l_int (xs : List PV) : isiP (.lst xs) (.ty .int) = some false := rfl
theorem isi_l_lt (xs : List PV) : isiP (.lst xs) (.tup [.ty .list, .ty .tuple]) = some true := rfl
theorem isi_l_bs (xs : List PV) : isiP (.lst xs) (.tup [.ty .bool, .ty .str]) = some false := rfl
theorem isN_l (xs : List PV) : cmpP .Is (.lst xs) .non = some false := rfl
theorem isnN_l (xs : List PV) : cmpP .IsNot (.lst xs) .non = some true := rfl
theorem isi_t_list (xs : List PV) : isiP (.tup xs) (.ty .list) = some false := rfl
theorem isi_t_tuple (xs : List PV) : isiP (.tup xs) (.ty .tuple) = some true := rfl
theorem isi_t_bool (xs : List PV) : isiP (.tup xs) (.ty .bool) = some false := rfl
theorem isi_t_str (xs : List PV) : isiP (.tup xs) (.ty .str) = some false := rfl
theorem isi_t_int (xs : List PV) : isiP (.tup xs) (.ty .int) = some false := rfl
theorem isi_t_lt (xs : List PV) : isiP (.tup xs) (.tup [.ty .list, .ty .tuple]) = some true := rfl
theorem isi_t_bs (xs : List PV) : isiP (.tup xs) (.tup [.ty .bool, .ty .str]) = some false := rfl
theorem isN_t (xs : List PV) : cmpP .Is (.tup xs) .non = some false := rfl
theorem isnN_t (xs : List PV) : cmpP .IsNot (.tup xs) .non = some true := rfl
theorem eq_ii (i j : Int) : cmpP .Eq (.int i) (.int j) = some (i == j) := rfl
theorem eq_bb (i j : Bool) : cmpP .Eq (.bl i) (.bl j) = some (i == j) := rfl
theorem eq_ss (i j : Str) : cmpP .Eq (.str i) (.str j) = some (i == j) := rfl
theorem eq_nn : cmpP .Eq .non .non = some true := rfl
theorem ne_bb (i j : Bool) : cmpP .NotEq (.bl i) (.bl j) = some (!(i == j)) := rfl
theorem ne_ii (i j : Int) : cmpP .NotEq (.int i) (.int j) = some (!(i == j)) := rfl
theorem ne_ss (i j : Str) : cmpP .NotEq (.str i) (.str j) = some (!(i == j)) := rfl
theorem lt_ii (i j : Int) : cmpP .Lt (.int i) (.int j) = some (decide (i < j)) := rfl
theorem le_ii (i j : Int) : cmpP .LtE (.int i) (.int j) = some (decide (i ≤ j)) := rfl
theorem ge_ii (i j : Int) : cmpP .GtE (.int i) (.int j) = some (decide (j ≤ i)) := rfl
theorem blt_len_t (xs : List PV) : bltP .len [.tup xs] = some (.int xs.length) := rfl
theorem blt_isi (p q : PV) : bltP .isinstance [p, q] = (isiP p q).map .bl := rfl
theorem blt_all (xs : List PV) : bltP .all [.lst xs] = (allBls xs).map fun bs => .bl (bs.all id) := rfl
theorem truth_b (b : Bool) : truth (.bl b) = some b := rfl
theorem allBls_true {α : Type} : ∀ xs : List α, allBls (xs.map fun _ => PV.bl true) = some (xs.map fun _ => true)
  | [] => rfl
  | x :: xs => by
    show (allBls (xs.map fun _ => PV.bl true)).map (true :: ·) = _
    rw [allBls_true xs]; rfl
theorem all_true {α : Type} : ∀ xs : List α, (xs.map fun _ => true).all id = true
  | [] => rfl
  | x :: xs => all_true xs
mutual
def good : PV → Bool
  | .non => true
  | .bl _ => true
  | .int _ => true
  | .str _ => true
  | .tup xs => goods xs && decide (xs.length ≤ sizeLine)
  | .lst xs => goods xs && decide (xs.length ≤ sizeLine)
  | _ => false
def goods : List PV → Bool
  | [] => true
  | x :: xs => good x && goods xs
end
theorem goods_mem : ∀ {xs : List PV}, goods xs = true → ∀ x ∈ xs, good x = true
  | [], _, x, h => by cases h
  | y :: ys, hg, x, h => by
    obtain ⟨h1, h2⟩ := band hg
    rcases List.mem_cons.mp h with rfl | h
    · exact h1
    · exact goods_mem h2 x h
theorem depPs_mem : ∀ {xs : List PV} {x : PV}, x ∈ xs → depP x ≤ depPs xs
  | y :: ys, x, h => by
    have e : depPs (y :: ys) = max (depP y) (depPs ys) := rfl
    rcases List.mem_cons.mp h with rfl | h
    · omega
    · have := depPs_mem h; omega
structure SameOk (C : Cal) (n : Nat) : Prop where
  sig : C.sig "_law_same" = some [false, false]
  run : ∀ p : PV, good p = true → depP p < n → C.run "_law_same" [p, p] = .ok (.bl true, .fz) []
theorem same_loop {C : Cal} {n : Nat} (h : SameOk C n) (p q : PV) : ∀ xs : List PV, goods xs = true → depPs xs < n →
    compLoop (compTurnE [2, 3] (.tup [2, 3]) (ev C .no).2 (ev C (.call "_law_same" (.cons (.var 2) (.cons (.var 3) .nil)))).1) (zipItems xs xs) [some (p, .fz), some (q, .fz), none, none] = .ok (xs.map fun _ => PV.bl true) [some (p, .fz), some (q, .fz), none, none]
  | [], _, _ => rfl
  | x :: xs, hg, hd => by
    obtain ⟨g1, g2⟩ := band hg
    have e : depPs (x :: xs) = max (depP x) (depPs xs) := rfl
    have ih := same_loop h p q xs g2 (by omega)
    have sg := h.sig
    have hr := h.run x g1 (by omega)
    have st : setG (.tup [2, 3]) (.tup [x, x]) [some (p, .fz), some (q, .fz), none, none] = some [some (p, .fz), some (q, .fz), some (x, .fz), some (x, .fz)] := rfl
    show compLoop _ (.tup [x, x] :: zipItems xs xs) _ = _
    simp only [bd_ok, bd_exc, bd_bad, fo_ok, fo_exc, th_nx, th_ret, th_exc, th_brk, th_cnt, tk_nx, tk_cnt, tk_brk, tk_ret, tk_exc, x_nil, x_seq, kAsg_eq, x_asg, kUnp_eq, x_unp, kPar_eq, x_par, kSet2_eq, kSet1_eq, x_seti, kApp_eq, x_app, kExpr_eq, x_expr, x_ret, x_retN, kIf_eq, x_ife, kLoop_eq, x_loop, x_whl, kWh_eq, x_brk, x_cnt, x_pass, kCl2_eq, kCl1_eq, kTr_eq, kB2_eq, kB1_eq, kU_eq, kTup_eq, kLst_eq, kS2_eq, kS1_eq, kC3_eq, kC2_eq, kC1_eq, kCall_eq, kK2_eq, kK1_eq, kBl_eq, kM2_eq, kM1_eq, kCo_eq, kRg_eq, kEn_eq, kZ2_eq, kZ1_eq, v_int, t_int, v_str, t_str, v_bl, t_bl, v_non, t_non, v_cst, t_cst, v_fnv, t_fnv, v_tyv, t_tyv, v_bin, t_bin, v_un, t_un, v_tup, t_tup, v_lst, t_lst, v_sub, t_sub, v_slc, t_slc, v_call, t_call, v_callk, t_callk, v_blt, t_blt, v_mth, t_mth, v_comp, t_comp, v_rng, t_rng, v_enm, t_enm, v_zip, t_zip, kVb_eq, kQ2_eq, kQ1_eq, kH4_eq, kH3_eq, kH2_eq, kH1_eq, v_cmp, t_cmp, v_chn, t_chn, v_var, t_var, kN2_eq, kN1_eq, kNt_eq, v_not, t_not, kAn_eq, kAt_eq, v_and, t_and, kOn_eq, kOt_eq, v_or, t_or, kIv_eq, kIt_eq, v_ife, t_ife, v_seq, v_no, kOs2_eq, kOs1_eq, os_nil, os_cons, kF2_eq, kF1_eq, f_nil, f_cons, kG2_eq, kG1_eq, kG3_eq, g_nil, g_val, g_slot, kGt_eq, g_tmpc, o_var, kIe_eq, it_ev, p_no, kRt_eq, r_var, kV_eq, kPt_eq, o_int, r_int, p_int, o_str, r_str, p_str, o_bl, r_bl, p_bl, o_non, r_non, p_non, o_cst, r_cst, p_cst, o_fnv, r_fnv, p_fnv, o_tyv, r_tyv, p_tyv, o_bin, r_bin, p_bin, o_un, r_un, p_un, o_tup, r_tup, p_tup, o_lst, r_lst, p_lst, o_sub, r_sub, p_sub, o_slc, r_slc, p_slc, o_call, r_call, p_call, o_callk, r_callk, p_callk, o_blt, r_blt, p_blt, o_mth, r_mth, p_mth, o_comp, r_comp, p_comp, o_rng, r_rng, p_rng, o_enm, r_enm, p_enm, o_zip, r_zip, p_zip, o_cmp, r_cmp, p_cmp, o_chn, r_chn, p_chn, o_not, r_not, p_not, o_and, r_and, p_and, o_or, r_or, p_or, o_ife, r_ife, p_ife, p_var, kT3_eq, kT2_eq, evVar, tsVar, liftO, liftB, flOf, fzO, okIf, cmp2, rsO, rsOs, unP, truth, lstAt, argV, argVs, slotsOf, argBack, setP, itO, itemsP, setPar, isNonP, kindO, seqOf, ownFz, wipeE, unwipe, consO, enmP, zipP, List.all_cons, List.all_nil, Bool.and_true, Bool.true_and, Bool.and_self, Option.bind_some, Option.map_some, List.getElem?_cons_zero, List.getElem?_cons_succ, List.set_cons_zero, List.set_cons_succ, Option.isSome_some, if_true, if_false, ite_true, ite_false, decide_true, decide_false, Bool.not_true, Bool.not_false, reduceIte, Bool.false_eq_true, cl_cons, ct_eq, kT2_eq, kT3_eq, st, sg, hr, doCall, nd0, ih, sz0, sz1, sz2, sz3, sz4, sz5, sz6, sz7, sz8, sz9, sz10, sz11, sz12, sz13, sz14, sz15, sz16, sz17, sz18, sz19, sz20]
    rfl
theorem same_run {C : Cal} {n : Nat} (h : SameOk C n) (p : PV) (hg : good p = true) (hd : depP p < n + 1) : exec C sameB [some (p, .fz), some (p, .fz), none, none] = .ret (.bl true, .fz) [some (p, .fz), some (p, .fz), none, none] := by
  unfold sameB
  cases p with
  | non => rfl
  | bl b => cases b <;> rfl
  | int i =>
    simp only [bd_ok, bd_exc, bd_bad, fo_ok, fo_exc, th_nx, th_ret, th_exc, th_brk, th_cnt, tk_nx, tk_cnt, tk_brk, tk_ret, tk_exc, x_nil, x_seq, kAsg_eq, x_asg, kUnp_eq, x_unp, kPar_eq, x_par, kSet2_eq, kSet1_eq, x_seti, kApp_eq, x_app, kExpr_eq, x_expr, x_ret, x_retN, kIf_eq, x_ife, kLoop_eq, x_loop, x_whl, kWh_eq, x_brk, x_cnt, x_pass, kCl2_eq, kCl1_eq, kTr_eq, kB2_eq, kB1_eq, kU_eq, kTup_eq, kLst_eq, kS2_eq, kS1_eq, kC3_eq, kC2_eq, kC1_eq, kCall_eq, kK2_eq, kK1_eq, kBl_eq, kM2_eq, kM1_eq, kCo_eq, kRg_eq, kEn_eq, kZ2_eq, kZ1_eq, v_int, t_int, v_str, t_str, v_bl, t_bl, v_non, t_non, v_cst, t_cst, v_fnv, t_fnv, v_tyv, t_tyv, v_bin, t_bin, v_un, t_un, v_tup, t_tup, v_lst, t_lst, v_sub, t_sub, v_slc, t_slc, v_call, t_call, v_callk, t_callk, v_blt, t_blt, v_mth, t_mth, v_comp, t_comp, v_rng, t_rng, v_enm, t_enm, v_zip, t_zip, kVb_eq, kQ2_eq, kQ1_eq, kH4_eq, kH3_eq, kH2_eq, kH1_eq, v_cmp, t_cmp, v_chn, t_chn, v_var, t_var, kN2_eq, kN1_eq, kNt_eq, v_not, t_not, kAn_eq, kAt_eq, v_and, t_and, kOn_eq, kOt_eq, v_or, t_or, kIv_eq, kIt_eq, v_ife, t_ife, v_seq, v_no, kOs2_eq, kOs1_eq, os_nil, os_cons, kF2_eq, kF1_eq, f_nil, f_cons, kG2_eq, kG1_eq, kG3_eq, g_nil, g_val, g_slot, kGt_eq, g_tmpc, o_var, kIe_eq, it_ev, p_no, kRt_eq, r_var, kV_eq, kPt_eq, o_int, r_int, p_int, o_str, r_str, p_str, o_bl, r_bl, p_bl, o_non, r_non, p_non, o_cst, r_cst, p_cst, o_fnv, r_fnv, p_fnv, o_tyv, r_tyv, p_tyv, o_bin, r_bin, p_bin, o_un, r_un, p_un, o_tup, r_tup, p_tup, o_lst, r_lst, p_lst, o_sub, r_sub, p_sub, o_slc, r_slc, p_slc, o_call, r_call, p_call, o_callk, r_callk, p_callk, o_blt, r_blt, p_blt, o_mth, r_mth, p_mth, o_comp, r_comp, p_comp, o_rng, r_rng, p_rng, o_enm, r_enm, p_enm, o_zip, r_zip, p_zip, o_cmp, r_cmp, p_cmp, o_chn, r_chn, p_chn, o_not, r_not, p_not, o_and, r_and, p_and, o_or, r_or, p_or, o_ife, r_ife, p_ife, p_var, kT3_eq, kT2_eq, evVar, tsVar, liftO, liftB, flOf, fzO, okIf, cmp2, rsO, rsOs, unP, truth, lstAt, argV, argVs, slotsOf, argBack, setP, itO, itemsP, setPar, isNonP, kindO, seqOf, ownFz, wipeE, unwipe, consO, enmP, zipP, List.all_cons, List.all_nil, Bool.and_true, Bool.true_and, Bool.and_self, Option.bind_some, Option.map_some, List.getElem?_cons_zero, List.getElem?_cons_succ, List.set_cons_zero, List.set_cons_succ, Option.isSome_some, if_true, if_false, ite_true, ite_false, decide_true, decide_false, Bool.not_true, Bool.not_false, reduceIte, Bool.false_eq_true, isi_n_list, isi_n_tuple, isi_n_bool, isi_n_str, isi_n_int, isi_n_lt, isi_n_bs, isN_n, isnN_n, isi_b_list, isi_b_tuple, isi_b_bool, isi_b_str, isi_b_int, isi_b_lt, isi_b_bs, isN_b, isnN_b, isi_i_list, isi_i_tuple, isi_i_bool, isi_i_str, isi_i_int, isi_i_lt, isi_i_bs, isN_i, isnN_i, isi_s_list, isi_s_tuple, isi_s_bool, isi_s_str, isi_s_int, isi_s_lt, isi_s_bs, isN_s, isnN_s, isi_l_list, isi_l_tuple, isi_l_bool, isi_l_str, isi_l_int, isi_l_lt, isi_l_bs, isN_l, isnN_l, isi_t_list, isi_t_tuple, isi_t_bool, isi_t_str, isi_t_int, isi_t_lt, isi_t_bs, isN_t, isnN_t, eq_ii, eq_bb, ne_bb, blt_isi, truth_b, beq_self_eq_true, sz0, sz1, sz2, sz3, sz4, sz5, sz6, sz7, sz8, sz9, sz10, sz11, sz12, sz13, sz14, sz15, sz16, sz17, sz18, sz19, sz20]
  | str x =>
    simp only [bd_ok, bd_exc, bd_bad, fo_ok, fo_exc, th_nx, th_ret, th_exc, th_brk, th_cnt, tk_nx, tk_cnt, tk_brk, tk_ret, tk_exc, x_nil, x_seq, kAsg_eq, x_asg, kUnp_eq, x_unp, kPar_eq, x_par, kSet2_eq, kSet1_eq, x_seti, kApp_eq, x_app, kExpr_eq, x_expr, x_ret, x_retN, kIf_eq, x_ife, kLoop_eq, x_loop, x_whl, kWh_eq, x_brk, x_cnt, x_pass, kCl2_eq, kCl1_eq, kTr_eq, kB2_eq, kB1_eq, kU_eq, kTup_eq, kLst_eq, kS2_eq, kS1_eq, kC3_eq, kC2_eq, kC1_eq, kCall_eq, kK2_eq, kK1_eq, kBl_eq, kM2_eq, kM1_eq, kCo_eq, kRg_eq, kEn_eq, kZ2_eq, kZ1_eq, v_int, t_int, v_str, t_str, v_bl, t_bl, v_non, t_non, v_cst, t_cst, v_fnv, t_fnv, v_tyv, t_tyv, v_bin, t_bin, v_un, t_un, v_tup, t_tup, v_lst, t_lst, v_sub, t_sub, v_slc, t_slc, v_call, t_call, v_callk, t_callk, v_blt, t_blt, v_mth, t_mth, v_comp, t_comp, v_rng, t_rng, v_enm, t_enm, v_zip, t_zip, kVb_eq, kQ2_eq, kQ1_eq, kH4_eq, kH3_eq, kH2_eq, kH1_eq, v_cmp, t_cmp, v_chn, t_chn, v_var, t_var, kN2_eq, kN1_eq, kNt_eq, v_not, t_not, kAn_eq, kAt_eq, v_and, t_and, kOn_eq, kOt_eq, v_or, t_or, kIv_eq, kIt_eq, v_ife, t_ife, v_seq, v_no, kOs2_eq, kOs1_eq, os_nil, os_cons, kF2_eq, kF1_eq, f_nil, f_cons, kG2_eq, kG1_eq, kG3_eq, g_nil, g_val, g_slot, kGt_eq, g_tmpc, o_var, kIe_eq, it_ev, p_no, kRt_eq, r_var, kV_eq, kPt_eq, o_int, r_int, p_int, o_str, r_str, p_str, o_bl, r_bl, p_bl, o_non, r_non, p_non, o_cst, r_cst, p_cst, o_fnv, r_fnv, p_fnv, o_tyv, r_tyv, p_tyv, o_bin, r_bin, p_bin, o_un, r_un, p_un, o_tup, r_tup, p_tup, o_lst, r_lst, p_lst, o_sub, r_sub, p_sub, o_slc, r_slc, p_slc, o_call, r_call, p_call, o_callk, r_callk, p_callk, o_blt, r_blt, p_blt, o_mth, r_mth, p_mth, o_comp, r_comp, p_comp, o_rng, r_rng, p_rng, o_enm, r_enm, p_enm, o_zip, r_zip, p_zip, o_cmp, r_cmp, p_cmp, o_chn, r_chn, p_chn, o_not, r_not, p_not, o_and, r_and, p_and, o_or, r_or, p_or, o_ife, r_ife, p_ife, p_var, kT3_eq, kT2_eq, evVar, tsVar, liftO, liftB, flOf, fzO, okIf, cmp2, rsO, rsOs, unP, truth, lstAt, argV, argVs, slotsOf, argBack, setP, itO, itemsP, setPar, isNonP, kindO, seqOf, ownFz, wipeE, unwipe, consO, enmP, zipP, List.all_cons, List.all_nil, Bool.and_true, Bool.true_and, Bool.and_self, Option.bind_some, Option.map_some, List.getElem?_cons_zero, List.getElem?_cons_succ, List.set_cons_zero, List.set_cons_succ, Option.isSome_some, if_true, if_false, ite_true, ite_false, decide_true, decide_false, Bool.not_true, Bool.not_false, reduceIte, Bool.false_eq_true, isi_n_list, isi_n_tuple, isi_n_bool, isi_n_str, isi_n_int, isi_n_lt, isi_n_bs, isN_n, isnN_n, isi_b_list, isi_b_tuple, isi_b_bool, isi_b_str, isi_b_int, isi_b_lt, isi_b_bs, isN_b, isnN_b, isi_i_list, isi_i_tuple, isi_i_bool, isi_i_str, isi_i_int, isi_i_lt, isi_i_bs, isN_i, isnN_i, isi_s_list, isi_s_tuple, isi_s_bool, isi_s_str, isi_s_int, isi_s_lt, isi_s_bs, isN_s, isnN_s, isi_l_list, isi_l_tuple, isi_l_bool, isi_l_str, isi_l_int, isi_l_lt, isi_l_bs, isN_l, isnN_l, isi_t_list, isi_t_tuple, isi_t_bool, isi_t_str, isi_t_int, isi_t_lt, isi_t_bs, isN_t, isnN_t, eq_ss, eq_bb, ne_bb, blt_isi, truth_b, beq_self_eq_true, sz0, sz1, sz2, sz3, sz4, sz5, sz6, sz7, sz8, sz9, sz10, sz11, sz12, sz13, sz14, sz15, sz16, sz17, sz18, sz19, sz20]
  | lst xs =>
    obtain ⟨g1, g2⟩ := band (show (goods xs && decide (xs.length ≤ sizeLine)) = true from hg)
    have hl := same_loop h (.lst xs) (.lst xs) xs g1 (by have e : depP (.lst xs) = depPs xs + 1 := rfl; omega)
    have hs : (xs.map fun _ => PV.bl true).length ≤ sizeLine := by rw [List.length_map]; exact of_decide_eq_true g2
    simp only [bd_ok, bd_exc, bd_bad, fo_ok, fo_exc, th_nx, th_ret, th_exc, th_brk, th_cnt, tk_nx, tk_cnt, tk_brk, tk_ret, tk_exc, x_nil, x_seq, kAsg_eq, x_asg, kUnp_eq, x_unp, kPar_eq, x_par, kSet2_eq, kSet1_eq, x_seti, kApp_eq, x_app, kExpr_eq, x_expr, x_ret, x_retN, kIf_eq, x_ife, kLoop_eq, x_loop, x_whl, kWh_eq, x_brk, x_cnt, x_pass, kCl2_eq, kCl1_eq, kTr_eq, kB2_eq, kB1_eq, kU_eq, kTup_eq, kLst_eq, kS2_eq, kS1_eq, kC3_eq, kC2_eq, kC1_eq, kCall_eq, kK2_eq, kK1_eq, kBl_eq, kM2_eq, kM1_eq, kCo_eq, kRg_eq, kEn_eq, kZ2_eq, kZ1_eq, v_int, t_int, v_str, t_str, v_bl, t_bl, v_non, t_non, v_cst, t_cst, v_fnv, t_fnv, v_tyv, t_tyv, v_bin, t_bin, v_un, t_un, v_tup, t_tup, v_lst, t_lst, v_sub, t_sub, v_slc, t_slc, v_call, t_call, v_callk, t_callk, v_blt, t_blt, v_mth, t_mth, v_comp, t_comp, v_rng, t_rng, v_enm, t_enm, v_zip, t_zip, kVb_eq, kQ2_eq, kQ1_eq, kH4_eq, kH3_eq, kH2_eq, kH1_eq, v_cmp, t_cmp, v_chn, t_chn, v_var, t_var, kN2_eq, kN1_eq, kNt_eq, v_not, t_not, kAn_eq, kAt_eq, v_and, t_and, kOn_eq, kOt_eq, v_or, t_or, kIv_eq, kIt_eq, v_ife, t_ife, v_seq, v_no, kOs2_eq, kOs1_eq, os_nil, os_cons, kF2_eq, kF1_eq, f_nil, f_cons, kG2_eq, kG1_eq, kG3_eq, g_nil, g_val, g_slot, kGt_eq, g_tmpc, o_var, kIe_eq, it_ev, p_no, kRt_eq, r_var, kV_eq, kPt_eq, o_int, r_int, p_int, o_str, r_str, p_str, o_bl, r_bl, p_bl, o_non, r_non, p_non, o_cst, r_cst, p_cst, o_fnv, r_fnv, p_fnv, o_tyv, r_tyv, p_tyv, o_bin, r_bin, p_bin, o_un, r_un, p_un, o_tup, r_tup, p_tup, o_lst, r_lst, p_lst, o_sub, r_sub, p_sub, o_slc, r_slc, p_slc, o_call, r_call, p_call, o_callk, r_callk, p_callk, o_blt, r_blt, p_blt, o_mth, r_mth, p_mth, o_comp, r_comp, p_comp, o_rng, r_rng, p_rng, o_enm, r_enm, p_enm, o_zip, r_zip, p_zip, o_cmp, r_cmp, p_cmp, o_chn, r_chn, p_chn, o_not, r_not, p_not, o_and, r_and, p_and, o_or, r_or, p_or, o_ife, r_ife, p_ife, p_var, kT3_eq, kT2_eq, evVar, tsVar, liftO, liftB, flOf, fzO, okIf, cmp2, rsO, rsOs, unP, truth, lstAt, argV, argVs, slotsOf, argBack, setP, itO, itemsP, setPar, isNonP, kindO, seqOf, ownFz, wipeE, unwipe, consO, enmP, zipP, List.all_cons, List.all_nil, Bool.and_true, Bool.true_and, Bool.and_self, Option.bind_some, Option.map_some, List.getElem?_cons_zero, List.getElem?_cons_succ, List.set_cons_zero, List.set_cons_succ, Option.isSome_some, if_true, if_false, ite_true, ite_false, decide_true, decide_false, Bool.not_true, Bool.not_false, reduceIte, Bool.false_eq_true, isi_n_list, isi_n_tuple, isi_n_bool, isi_n_str, isi_n_int, isi_n_lt, isi_n_bs, isN_n, isnN_n, isi_b_list, isi_b_tuple, isi_b_bool, isi_b_str, isi_b_int, isi_b_lt, isi_b_bs, isN_b, isnN_b, isi_i_list, isi_i_tuple, isi_i_bool, isi_i_str, isi_i_int, isi_i_lt, isi_i_bs, isN_i, isnN_i, isi_s_list, isi_s_tuple, isi_s_bool, isi_s_str, isi_s_int, isi_s_lt, isi_s_bs, isN_s, isnN_s, isi_l_list, isi_l_tuple, isi_l_bool, isi_l_str, isi_l_int, isi_l_lt, isi_l_bs, isN_l, isnN_l, isi_t_list, isi_t_tuple, isi_t_bool, isi_t_str, isi_t_int, isi_t_lt, isi_t_bs, isN_t, isnN_t, eq_ii, eq_bb, ne_bb, blt_isi, blt_len_l, truth_b, beq_self_eq_true, hl, compEnd, hs, blt_all, allBls_true, all_true, sz0, sz1, sz2, sz3, sz4, sz5, sz6, sz7, sz8, sz9, sz10, sz11, sz12, sz13, sz14, sz15, sz16, sz17, sz18, sz19, sz20]
  | tup xs =>
    obtain ⟨g1, g2⟩ := band (show (goods xs && decide (xs.length ≤ sizeLine)) = true from hg)
    have hl := same_loop h (.tup xs) (.tup xs) xs g1 (by have e : depP (.tup xs) = depPs xs + 1 := rfl; omega)
    have hs : (xs.map fun _ => PV.bl true).length ≤ sizeLine := by rw [List.length_map]; exact of_decide_eq_true g2
    simp only [bd_ok, bd_exc, bd_bad, fo_ok, fo_exc, th_nx, th_ret, th_exc, th_brk, th_cnt, tk_nx, tk_cnt, tk_brk, tk_ret, tk_exc, x_nil, x_seq, kAsg_eq, x_asg, kUnp_eq, x_unp, kPar_eq, x_par, kSet2_eq, kSet1_eq, x_seti, kApp_eq, x_app, kExpr_eq, x_expr, x_ret, x_retN, kIf_eq, x_ife, kLoop_eq, x_loop, x_whl, kWh_eq, x_brk, x_cnt, x_pass, kCl2_eq, kCl1_eq, kTr_eq, kB2_eq, kB1_eq, kU_eq, kTup_eq, kLst_eq, kS2_eq, kS1_eq, kC3_eq, kC2_eq, kC1_eq, kCall_eq, kK2_eq, kK1_eq, kBl_eq, kM2_eq, kM1_eq, kCo_eq, kRg_eq, kEn_eq, kZ2_eq, kZ1_eq, v_int, t_int, v_str, t_str, v_bl, t_bl, v_non, t_non, v_cst, t_cst, v_fnv, t_fnv, v_tyv, t_tyv, v_bin, t_bin, v_un, t_un, v_tup, t_tup, v_lst, t_lst, v_sub, t_sub, v_slc, t_slc, v_call, t_call, v_callk, t_callk, v_blt, t_blt, v_mth, t_mth, v_comp, t_comp, v_rng, t_rng, v_enm, t_enm, v_zip, t_zip, kVb_eq, kQ2_eq, kQ1_eq, kH4_eq, kH3_eq, kH2_eq, kH1_eq, v_cmp, t_cmp, v_chn, t_chn, v_var, t_var, kN2_eq, kN1_eq, kNt_eq, v_not, t_not, kAn_eq, kAt_eq, v_and, t_and, kOn_eq, kOt_eq, v_or, t_or, kIv_eq, kIt_eq, v_ife, t_ife, v_seq, v_no, kOs2_eq, kOs1_eq, os_nil, os_cons, kF2_eq, kF1_eq, f_nil, f_cons, kG2_eq, kG1_eq, kG3_eq, g_nil, g_val, g_slot, kGt_eq, g_tmpc, o_var, kIe_eq, it_ev, p_no, kRt_eq, r_var, kV_eq, kPt_eq, o_int, r_int, p_int, o_str, r_str, p_str, o_bl, r_bl, p_bl, o_non, r_non, p_non, o_cst, r_cst, p_cst, o_fnv, r_fnv, p_fnv, o_tyv, r_tyv, p_tyv, o_bin, r_bin, p_bin, o_un, r_un, p_un, o_tup, r_tup, p_tup, o_lst, r_lst, p_lst, o_sub, r_sub, p_sub, o_slc, r_slc, p_slc, o_call, r_call, p_call, o_callk, r_callk, p_callk, o_blt, r_blt, p_blt, o_mth, r_mth, p_mth, o_comp, r_comp, p_comp, o_rng, r_rng, p_rng, o_enm, r_enm, p_enm, o_zip, r_zip, p_zip, o_cmp, r_cmp, p_cmp, o_chn, r_chn, p_chn, o_not, r_not, p_not, o_and, r_and, p_and, o_or, r_or, p_or, o_ife, r_ife, p_ife, p_var, kT3_eq, kT2_eq, evVar, tsVar, liftO, liftB, flOf, fzO, okIf, cmp2, rsO, rsOs, unP, truth, lstAt, argV, argVs, slotsOf, argBack, setP, itO, itemsP, setPar, isNonP, kindO, seqOf, ownFz, wipeE, unwipe, consO, enmP, zipP, List.all_cons, List.all_nil, Bool.and_true, Bool.true_and, Bool.and_self, Option.bind_some, Option.map_some, List.getElem?_cons_zero, List.getElem?_cons_succ, List.set_cons_zero, List.set_cons_succ, Option.isSome_some, if_true, if_false, ite_true, ite_false, decide_true, decide_false, Bool.not_true, Bool.not_false, reduceIte, Bool.false_eq_true, isi_n_list, isi_n_tuple, isi_n_bool, isi_n_str, isi_n_int, isi_n_lt, isi_n_bs, isN_n, isnN_n, isi_b_list, isi_b_tuple, isi_b_bool, isi_b_str, isi_b_int, isi_b_lt, isi_b_bs, isN_b, isnN_b, isi_i_list, isi_i_tuple, isi_i_bool, isi_i_str, isi_i_int, isi_i_lt, isi_i_bs, isN_i, isnN_i, isi_s_list, isi_s_tuple, isi_s_bool, isi_s_str, isi_s_int, isi_s_lt, isi_s_bs, isN_s, isnN_s, isi_l_list, isi_l_tuple, isi_l_bool, isi_l_str, isi_l_int, isi_l_lt, isi_l_bs, isN_l, isnN_l, isi_t_list, isi_t_tuple, isi_t_bool, isi_t_str, isi_t_int, isi_t_lt, isi_t_bs, isN_t, isnN_t, eq_ii, eq_bb, ne_bb, blt_isi, blt_len_t, truth_b, beq_self_eq_true, hl, compEnd, hs, blt_all, allBls_true, all_true, sz0, sz1, sz2, sz3, sz4, sz5, sz6, sz7, sz8, sz9, sz10, sz11, sz12, sz13, sz14, sz15, sz16, sz17, sz18, sz19, sz20]
  | _ => cases hg
theorem same_ok {C : Cal} {n : Nat} (h : SameOk C n) {d : FD} (hb : d.body = sameB) (hN : d.N.length = 4) (hs : d.sg = [false, false]) (p : PV) (hg : good p = true) (hd : depP p < n + 1) : runF C (some d) [p, p] = .ok (.bl true, .fz) [] := by
  have he := same_run h p hg hd
  show finish d.sg (exec C d.body (startE d _)) = _
  unfold startE
  rw [hb, hs, hN]
  show finish _ (exec C sameB [some (p, .fz), some (p, .fz), none, none]) = _
  rw [he]; rfl
end Bd

namespace K52
open PySem PySem.Spec PyProof.Rows L2 Bd
abbrev rowP : Program := PySem.Challenge.pw_builtahead_k52_places_that_touch
def top (i : Nat) : Stmt := rowP.main.body.getD i (.Pass ⟨0, 0, 0, 0⟩)
def d_law : FD := ⟨["_law_script", "_law_rows", "_law_k"], [false],
 (.seq (.asg 1 (.call "_law_cells" (.cons (.var 0) (.cons (.int 3) .nil))))
 (.seq (.ret (.and (.call "_law_by_hand_right" .nil) (.blt .all (.cons (.comp [2] (.nm 2) (.rng (.cons (.blt .len (.cons (.var 1) .nil)) .nil)) .no (.call "_law_right" (.cons (.call "_law_box" (.cons (.var 1) (.cons (.var 2) .nil))) .nil))) .nil))))
 .nil)), []⟩
def d__law_box : FD := ⟨["_law_script", "_law_k", "_law_great_so", "_law_lead_so"], [false, false],
 (.seq (.asg 2 (.ife (.cmp .Lt (.var 1) (.blt .len (.cons (.var 0) .nil))) (.sub (.var 0) (.var 1)) (.int 0)))
 (.seq (.asg 3 (.bin .Mult (.blt .abs (.cons (.var 2) .nil)) (.blt .int (.cons (.cmp .GtE (.blt .abs (.cons (.var 2) .nil)) (.bin .Pow (.int 10) (.int 18))) .nil))))
 (.seq (.ret (.lst (.cons (.var 3) (.cons (.bin .Add (.bin .Add (.bin .Mod (.blt .int (.cons (.var 2) .nil)) (.int 2305843009213693951)) (.bin .Mult (.int 39373) (.var 1))) (.int 93752)) (.cons (.int 0) .nil)))))
 .nil))), []⟩
def d__law_right : FD := ⟨["_law_urn", "_law_lap_so", "_law_spots_so", "_law_tag"], [true],
 (.seq (.loop (.nm 1) (.rng (.cons (.int 5) .nil))
 (.seq (.asg 2 (.lst .nil))
 (.seq (.loop (.nm 3) (.seq (.tup (.cons (.str "x") (.cons (.call "_law_of" (.cons (.var 0) (.cons (.lst (.cons (.str "x") (.cons (.str "x") (.cons (.str "x") (.cons (.str "y") .nil))))) .nil))) .nil))))
 (.seq (.app 2 (.tup (.cons (.var 3) (.cons (.call "_law_take" (.cons (.var 0) (.cons (.int 5) .nil))) (.cons (.call "_law_of" (.cons (.var 0) (.cons (.lst (.cons (.call "_law_take" (.cons (.var 0) (.cons (.int 6) .nil))) (.cons (.call "_law_take" (.cons (.var 0) (.cons (.int 41) .nil))) .nil))) .nil))) .nil)))))
 .nil))
 (.seq (.ife (.or (.not (.call "_law_asked" (.cons (.sub (.var 2) (.int 0)) (.cons (.sub (.var 2) (.int 1)) .nil)))) (.not (.call "_law_asked" (.cons (.sub (.var 2) (.int 1)) (.cons (.sub (.var 2) (.int 0)) .nil)))))
 (.seq (.ret (.bl false))
 .nil)
 .nil)
 .nil))))
 (.seq (.ret (.bl true))
 .nil)), []⟩
def d__law_asked : FD := ⟨["_law_near", "_law_far", "_law_first_so", "_law_goal", "_law_got"], [false, false],
 (.seq (.asg 2 (.call "_law_first" (.cons (.var 0) (.cons (.var 1) (.cons (.int 64) .nil)))))
 (.seq (.asg 3 (.lst (.cons (.var 2) (.cons (.cmp .IsNot (.var 2) .non) (.cons (.call "_law_shift" (.cons (.var 0) (.cons (.var 1) .nil))) .nil)))))
 (.seq (.asg 4 (.lst (.cons (.call "first_touch" (.cons (.var 0) (.cons (.var 1) .nil))) (.cons (.call "do_touch" (.cons (.var 0) (.cons (.var 1) .nil))) (.cons (.call "turns_back" (.cons (.var 0) (.cons (.var 1) .nil))) .nil)))))
 (.seq (.asg 4 (.bin .Add (.var 4) (.lst (.cons (.call "first_touch" (.cons (.blt .list (.cons (.var 0) .nil)) (.cons (.blt .list (.cons (.var 1) .nil)) .nil))) (.cons (.call "do_touch" (.cons (.blt .list (.cons (.var 0) .nil)) (.cons (.var 1) .nil))) (.cons (.call "turns_back" (.cons (.var 0) (.cons (.blt .list (.cons (.var 1) .nil)) .nil))) .nil))))))
 (.seq (.ret (.call "_law_same" (.cons (.var 4) (.cons (.bin .Add (.var 3) (.var 3)) .nil))))
 .nil))))), []⟩
def d__law_same : FD := ⟨["_law_got", "_law_goal", "_law_mine_so", "_law_own"], [false, false],
 (.seq (.ife (.blt .isinstance (.cons (.var 1) (.cons (.tup (.cons (.tyv .list) (.cons (.tyv .tuple) .nil))) .nil)))
 (.seq (.ife (.or (.cmp .NotEq (.blt .isinstance (.cons (.var 0) (.cons (.tyv .list) .nil))) (.blt .isinstance (.cons (.var 1) (.cons (.tyv .list) .nil)))) (.cmp .NotEq (.blt .isinstance (.cons (.var 0) (.cons (.tyv .tuple) .nil))) (.blt .isinstance (.cons (.var 1) (.cons (.tyv .tuple) .nil)))))
 (.seq (.ret (.bl false))
 .nil)
 .nil)
 (.seq (.ret (.and (.cmp .Eq (.blt .len (.cons (.var 0) .nil)) (.blt .len (.cons (.var 1) .nil))) (.blt .all (.cons (.comp [2, 3] (.tup [2, 3]) (.zip (.var 0) (.var 1)) .no (.call "_law_same" (.cons (.var 2) (.cons (.var 3) .nil)))) .nil))))
 .nil))
 .nil)
 (.seq (.ife (.or (.cmp .Is (.var 1) .non) (.blt .isinstance (.cons (.var 1) (.cons (.tup (.cons (.tyv .bool) (.cons (.tyv .str) .nil))) .nil))))
 (.seq (.ret (.and (.cmp .Eq (.var 0) (.var 1)) (.and (.cmp .Eq (.blt .isinstance (.cons (.var 0) (.cons (.tyv .bool) .nil))) (.blt .isinstance (.cons (.var 1) (.cons (.tyv .bool) .nil)))) (.cmp .Eq (.cmp .Is (.var 0) .non) (.cmp .Is (.var 1) .non)))))
 .nil)
 .nil)
 (.seq (.ret (.and (.blt .isinstance (.cons (.var 0) (.cons (.tyv .int) .nil))) (.and (.not (.blt .isinstance (.cons (.var 0) (.cons (.tyv .bool) .nil)))) (.cmp .Eq (.var 0) (.var 1)))))
 .nil))), []⟩
def d_turns_back : FD := ⟨["read", "written"], [false, false],
 (.seq (.ife (.or (.cmp .NotEq (.sub (.var 0) (.int 0)) (.sub (.var 1) (.int 0))) (.or (.cmp .NotEq (.sub (.var 0) (.int 1)) (.sub (.var 1) (.int 1))) (.or (.cmp .Eq (.sub (.var 0) (.int 1)) (.int 0)) (.cmp .NotEq (.bin .Mod (.bin .Sub (.sub (.var 1) (.int 2)) (.sub (.var 0) (.int 2))) (.sub (.var 0) (.int 1))) (.int 0)))))
 (.seq (.ret .non)
 .nil)
 .nil)
 (.seq (.ret (.bin .FloorDiv (.bin .Sub (.sub (.var 1) (.int 2)) (.sub (.var 0) (.int 2))) (.sub (.var 0) (.int 1))))
 .nil)), [(0, ["written", "read"], [1, 0])]⟩
def d_do_touch : FD := ⟨["one", "other"], [false, false],
 (.seq (.ret (.cmp .IsNot (.call "least_turn" (.cons (.var 0) (.cons (.var 1) .nil))) .non))
 .nil), [(0, ["other", "one"], [1, 0])]⟩
def d_least_turn : FD := ⟨["one", "other", "near", "far", "gap", "step", "turn"], [false, false],
 (.seq (.ife (.cmp .NotEq (.sub (.var 0) (.int 0)) (.sub (.var 1) (.int 0)))
 (.seq (.ret .non)
 .nil)
 .nil)
 (.seq (.unp [2, 3, 4] (.tup (.cons (.sub (.var 0) (.int 1)) (.cons (.sub (.var 1) (.int 1)) (.cons (.bin .Sub (.sub (.var 1) (.int 2)) (.sub (.var 0) (.int 2))) .nil)))))
 (.seq (.ife (.cmp .Eq (.var 3) (.int 0))
 (.seq (.ife (.cmp .Eq (.var 2) (.int 0))
 (.seq (.ret (.ife (.cmp .Eq (.var 4) (.int 0)) (.int 0) .non))
 .nil)
 .nil)
 (.seq (.ret (.ife (.and (.cmp .GtE (.var 4) (.int 0)) (.cmp .Eq (.bin .Mod (.var 4) (.var 2)) (.int 0))) (.bin .FloorDiv (.var 4) (.var 2)) .non))
 .nil))
 .nil)
 (.seq (.ife (.cmp .Eq (.var 2) (.int 0))
 (.seq (.ret (.ife (.and (.cmp .LtE (.var 4) (.int 0)) (.cmp .Eq (.bin .Mod (.var 4) (.var 3)) (.int 0))) (.int 0) .non))
 .nil)
 .nil)
 (.seq (.asg 5 (.call "divisor" (.cons (.var 2) (.cons (.var 3) .nil))))
 (.seq (.ife (.cmp .NotEq (.bin .Mod (.var 4) (.var 5)) (.int 0))
 (.seq (.ret .non)
 .nil)
 .nil)
 (.seq (.ret (.sub (.comp [6] (.nm 6) (.rng (.cons (.bin .FloorDiv (.var 3) (.var 5)) .nil)) (.cmp .Eq (.bin .Mod (.bin .Sub (.bin .Mult (.var 2) (.var 6)) (.var 4)) (.var 3)) (.int 0)) (.var 6)) (.int 0)))
 .nil))))))), []⟩
def d_divisor : FD := ⟨["one", "other"], [false, false],
 (.seq (.whl 1000000 (.cmp .NotEq (.var 1) (.int 0))
 (.seq (.par [0, 1] (.cons (.var 1) (.cons (.bin .Mod (.var 0) (.var 1)) .nil)))
 .nil))
 (.seq (.ret (.blt .abs (.cons (.var 0) .nil)))
 .nil)), []⟩
def d_first_touch : FD := ⟨["one", "other", "near"], [false, false],
 (.seq (.asg 2 (.call "least_turn" (.cons (.var 0) (.cons (.var 1) .nil))))
 (.seq (.ife (.cmp .Is (.var 2) .non)
 (.seq (.ret .non)
 .nil)
 .nil)
 (.seq (.ife (.cmp .Eq (.sub (.var 1) (.int 1)) (.int 0))
 (.seq (.ret (.tup (.cons (.var 2) (.cons (.int 0) .nil))))
 .nil)
 .nil)
 (.seq (.ret (.call "level_with" (.cons (.var 0) (.cons (.var 1) (.cons (.var 2) .nil)))))
 .nil)))), [(0, ["other", "one"], [1, 0])]⟩
def d_level_with : FD := ⟨["one", "other", "near", "step", "gap"], [false, false, false],
 (.seq (.asg 3 (.blt .max (.cons (.int 1) (.cons (.bin .FloorDiv (.sub (.var 1) (.int 1)) (.call "divisor" (.cons (.sub (.var 0) (.int 1)) (.cons (.sub (.var 1) (.int 1)) .nil)))) .nil))))
 (.seq (.asg 4 (.bin .Sub (.call "cell_at" (.cons (.var 0) (.cons (.var 2) .nil))) (.sub (.var 1) (.int 2))))
 (.seq (.ife (.and (.cmp .Lt (.var 4) (.int 0)) (.cmp .Gt (.sub (.var 0) (.int 1)) (.int 0)))
 (.seq (.asg 2 (.bin .Sub (.var 2) (.bin .Mult (.bin .FloorDiv (.var 4) (.bin .Mult (.sub (.var 0) (.int 1)) (.var 3))) (.var 3))))
 (.seq (.asg 4 (.bin .Sub (.call "cell_at" (.cons (.var 0) (.cons (.var 2) .nil))) (.sub (.var 1) (.int 2))))
 .nil))
 .nil)
 (.seq (.ret (.tup (.cons (.var 2) (.cons (.bin .FloorDiv (.var 4) (.sub (.var 1) (.int 1))) .nil))))
 .nil)))), []⟩
def d_cell_at : FD := ⟨["place", "turn"], [false, false],
 (.seq (.ret (.bin .Add (.bin .Mult (.sub (.var 0) (.int 1)) (.var 1)) (.sub (.var 0) (.int 2))))
 .nil), []⟩
def d__law_shift : FD := ⟨["_law_near", "_law_far", "_law_k"], [false, false],
 (.seq (.ife (.or (.cmp .NotEq (.sub (.var 0) (.int 0)) (.sub (.var 1) (.int 0))) (.or (.cmp .NotEq (.sub (.var 0) (.int 1)) (.sub (.var 1) (.int 1))) (.cmp .Eq (.sub (.var 0) (.int 1)) (.int 0))))
 (.seq (.ret .non)
 .nil)
 .nil)
 (.seq (.loop (.nm 2) (.rng (.cons (.un .USub (.int 40)) (.cons (.int 41) .nil)))
 (.seq (.ife (.cmp .Eq (.bin .Add (.bin .Mult (.sub (.var 0) (.int 1)) (.int 60)) (.sub (.var 0) (.int 2))) (.bin .Add (.bin .Mult (.sub (.var 1) (.int 1)) (.bin .Sub (.int 60) (.var 2))) (.sub (.var 1) (.int 2))))
 (.seq (.ret (.var 2))
 .nil)
 .nil)
 .nil))
 (.seq (.ret .non)
 .nil))), []⟩
def d__law_first : FD := ⟨["_law_near", "_law_far", "_law_top_so", "_law_k", "_law_gap_so"], [false, false, false],
 (.seq (.ife (.cmp .Eq (.sub (.var 0) (.int 0)) (.sub (.var 1) (.int 0)))
 (.seq (.loop (.nm 3) (.rng (.cons (.var 2) .nil))
 (.seq (.asg 4 (.bin .Sub (.bin .Add (.bin .Mult (.sub (.var 0) (.int 1)) (.var 3)) (.sub (.var 0) (.int 2))) (.sub (.var 1) (.int 2))))
 (.seq (.ife (.and (.cmp .Eq (.sub (.var 1) (.int 1)) (.int 0)) (.cmp .Eq (.var 4) (.int 0)))
 (.seq (.ret (.tup (.cons (.var 3) (.cons (.int 0) .nil))))
 .nil)
 .nil)
 (.seq (.ife (.and (.cmp .Gt (.sub (.var 1) (.int 1)) (.int 0)) (.and (.cmp .GtE (.var 4) (.int 0)) (.cmp .Eq (.bin .Mod (.blt .int (.cons (.var 4) .nil)) (.sub (.var 1) (.int 1))) (.int 0))))
 (.seq (.ret (.tup (.cons (.var 3) (.cons (.bin .FloorDiv (.var 4) (.sub (.var 1) (.int 1))) .nil))))
 .nil)
 .nil)
 .nil))))
 .nil)
 .nil)
 (.seq (.ret .non)
 .nil)), []⟩
def d__law_take : FD := ⟨["_law_urn", "_law_low_so", "_law_drawn", "_law_once", "_law_far", "_law_twice"], [true, false],
 (.seq (.ife (.cmp .Gt (.sub (.var 0) (.int 0)) (.int 0))
 (.seq (.asg 2 (.bin .Mod (.blt .int (.cons (.sub (.var 0) (.int 0)) .nil)) (.var 1)))
 (.seq (.seti 0 (.int 0) (.bin .FloorDiv (.sub (.var 0) (.int 0)) (.var 1)))
 (.seq (.ret (.var 2))
 .nil)))
 .nil)
 (.seq (.seti 0 (.int 2) (.bin .Add (.sub (.var 0) (.int 2)) (.int 1)))
 (.seq (.asg 3 (.bin .Mod (.blt .int (.cons (.bin .Mult (.bin .Add (.sub (.var 0) (.int 1)) (.bin .Mult (.int 48271) (.sub (.var 0) (.int 2)))) (.bin .Add (.int 39373) (.sub (.var 0) (.int 2)))) .nil)) (.int 2147483647)))
 (.seq (.asg 4 (.bin .Add (.bin .Mod (.blt .int (.cons (.var 3) .nil)) (.int 40009)) (.int 7)))
 (.seq (.asg 5 (.bin .Mod (.blt .int (.cons (.bin .Mult (.bin .Add (.bin .Add (.var 3) (.sub (.var 0) (.int 2))) (.bin .FloorDiv (.sub (.var 0) (.int 1)) (.int 1000003))) (.var 4)) .nil)) (.int 2147483629)))
 (.seq (.ret (.bin .Mod (.blt .int (.cons (.bin .FloorDiv (.bin .Mod (.blt .int (.cons (.bin .Add (.bin .Mult (.var 5) (.int 48271)) (.var 3)) .nil)) (.int 2147483587)) (.int 64)) .nil)) (.var 1)))
 .nil)))))), []⟩
def d__law_of : FD := ⟨["_law_urn", "_law_some_so"], [true, false],
 (.seq (.ret (.sub (.var 1) (.call "_law_take" (.cons (.var 0) (.cons (.blt .len (.cons (.var 1) .nil)) .nil)))))
 .nil), []⟩
def d__law_by_hand_right : FD := ⟨["_law_rows", "_law_own", "_law_bit", "_law_goal", "_law_got"], [],
 (.seq (.asg 0 (.lst (.cons (.str "x.2.0 x.3.1") (.cons (.str "x.3.1 x.2.0") (.cons (.str "x.2.0 x.4.1") (.cons (.str "x.2.0 y.2.0") (.cons (.str "x.0.5 x.2.1") (.cons (.str "x.0.0 x.2.1") (.cons (.str "x.0.4 x.0.4") .nil)))))))))
 (.seq (.asg 0 (.bin .Add (.var 0) (.lst (.cons (.str "x.0.4 x.0.5") (.cons (.str "x.1.0 x.1.40") (.cons (.str "x.1.40 x.1.0") (.cons (.str "x.3.0 x.0.12") (.cons (.str "x.4.0 x.3.40") .nil))))))))
 (.seq (.asg 0 (.bin .Add (.var 0) (.lst (.cons (.str "x.3.0 x.0.13") (.cons (.str "x.4.2 x.2.0") .nil)))))
 (.seq (.asg 0 (.comp [1] (.nm 1) (.seq (.var 0)) .no (.comp [2] (.nm 2) (.seq (.mth .split (.var 1) (.cons (.str " ") .nil))) .no (.call "_law_spot" (.cons (.var 2) .nil)))))
 (.seq (.asg 3 (.lst (.cons (.tup (.cons (.int 2) (.cons (.int 1) .nil))) (.cons (.tup (.cons (.int 1) (.cons (.int 2) .nil))) (.cons .non (.cons .non (.cons (.tup (.cons (.int 0) (.cons (.int 2) .nil))) (.cons .non (.cons (.tup (.cons (.int 0) (.cons (.int 0) .nil))) (.cons .non (.cons (.tup (.cons (.int 40) (.cons (.int 0) .nil))) (.cons (.tup (.cons (.int 0) (.cons (.int 40) .nil))) (.cons (.tup (.cons (.int 4) (.cons (.int 0) .nil))) (.cons (.tup (.cons (.int 10) (.cons (.int 0) .nil))) (.cons .non (.cons (.tup (.cons (.int 0) (.cons (.int 1) .nil))) .nil))))))))))))))))
 (.seq (.asg 4 (.lst (.cons (.comp [1, 2] (.tup [1, 2]) (.seq (.var 0)) .no (.call "first_touch" (.cons (.var 1) (.cons (.var 2) .nil)))) (.cons (.comp [1, 2] (.tup [1, 2]) (.seq (.var 0)) .no (.call "do_touch" (.cons (.var 1) (.cons (.var 2) .nil)))) .nil))))
 (.seq (.ife (.not (.call "_law_same" (.cons (.var 4) (.cons (.lst (.cons (.var 3) (.cons (.comp [1] (.nm 1) (.seq (.var 3)) .no (.cmp .IsNot (.var 1) .non)) .nil))) .nil))))
 (.seq (.ret (.bl false))
 .nil)
 .nil)
 (.seq (.asg 0 (.lst (.cons (.str "x.1.0 x.1.2") (.cons (.str "x.2.4 x.2.0") (.cons (.str "x.2.0 x.2.3") (.cons (.str "x.0.1 x.0.1") (.cons (.str "x.2.0 x.3.1") (.cons (.str "x.3.5 x.3.5") .nil))))))))
 (.seq (.asg 0 (.bin .Add (.var 0) (.lst (.cons (.str "x.1.0 y.1.0") (.cons (.str "x.4.0 x.4.40") .nil)))))
 (.seq (.asg 4 (.comp [1] (.nm 1) (.seq (.var 0)) .no (.call "turns_back" (.cons (.call "_law_spot" (.cons (.sub (.mth .split (.var 1) (.cons (.str " ") .nil)) (.int 0)) .nil)) (.cons (.call "_law_spot" (.cons (.sub (.mth .split (.var 1) (.cons (.str " ") .nil)) (.int 1)) .nil)) .nil)))))
 (.seq (.asg 4 (.bin .Add (.var 4) (.lst (.cons (.callk "do_touch" 0 ["other", "one"] .nil (.cons (.lst (.cons (.str "x") (.cons (.int 3) (.cons (.int 1) .nil)))) (.cons (.tup (.cons (.str "x") (.cons (.int 2) (.cons (.int 0) .nil)))) .nil))) (.cons (.callk "first_touch" 0 ["other", "one"] .nil (.cons (.tup (.cons (.str "x") (.cons (.int 3) (.cons (.int 1) .nil)))) (.cons (.lst (.cons (.str "x") (.cons (.int 2) (.cons (.int 0) .nil)))) .nil))) .nil)))))
 (.seq (.app 4 (.callk "turns_back" 0 ["written", "read"] .nil (.cons (.lst (.cons (.str "x") (.cons (.int 1) (.cons (.int 2) .nil)))) (.cons (.tup (.cons (.str "x") (.cons (.int 1) (.cons (.int 0) .nil)))) .nil))))
 (.seq (.ret (.call "_law_same" (.cons (.var 4) (.cons (.lst (.cons (.int 2) (.cons (.un .USub (.int 2)) (.cons .non (.cons .non (.cons .non (.cons (.int 0) (.cons .non (.cons (.int 10) (.cons (.bl true) (.cons (.tup (.cons (.int 2) (.cons (.int 1) .nil))) (.cons (.int 2) .nil)))))))))))) .nil))))
 .nil))))))))))))), []⟩
def d__law_spot : FD := ⟨["_law_flat", "_law_words_so"], [false],
 (.seq (.asg 1 (.mth .split (.var 0) (.cons (.str ".") .nil)))
 (.seq (.ret (.tup (.cons (.sub (.var 1) (.int 0)) (.cons (.blt .int (.cons (.sub (.var 1) (.int 1)) .nil)) (.cons (.blt .int (.cons (.sub (.var 1) (.int 2)) .nil)) .nil)))))
 .nil)), []⟩
def d__law_cells : FD := ⟨["_law_script", "_law_top", "_law_found", "_law_k", "_law_own", "_law_at_so"], [false, false],
 (.seq (.asg 2 (.or (.blt .list (.cons (.slc (.var 0) .no (.var 1)) .nil)) (.lst (.cons (.int 0) .nil))))
 (.seq (.loop (.tup [3, 4]) (.enm (.slc (.var 0) (.var 1) (.int 63)))
 (.seq (.asg 5 (.bin .Mod (.blt .int (.cons (.var 3) .nil)) (.var 1)))
 (.seq (.seti 2 (.var 5) (.bin .Add (.sub (.var 2) (.var 5)) (.bin .Mult (.var 4) (.bin .Add (.var 3) (.int 2)))))
 .nil)))
 (.seq (.ret (.var 2))
 .nil))), []⟩
def tab : List (Str × FD) := [("law", d_law), ("_law_box", d__law_box), ("_law_right", d__law_right), ("_law_asked", d__law_asked), ("_law_same", d__law_same), ("turns_back", d_turns_back), ("do_touch", d_do_touch), ("least_turn", d_least_turn), ("divisor", d_divisor), ("first_touch", d_first_touch), ("level_with", d_level_with), ("cell_at", d_cell_at), ("_law_shift", d__law_shift), ("_law_first", d__law_first), ("_law_take", d__law_take), ("_law_of", d__law_of), ("_law_by_hand_right", d__law_by_hand_right), ("_law_spot", d__law_spot), ("_law_cells", d__law_cells)]
def T (f : Str) : Option FD := tab.lookup f
def cst (_ : Str) : Option PV := none
theorem c_law : chkS d_law.N (defScope (top 21)) d_law.body (defBody (top 21)) = true := by decide +kernel
theorem s_law : FnScope d_law.N ["_law_script"] (defScope (top 21)) := ⟨rfl, rfl, rfl, by decide +kernel, rfl, by decide +kernel, by decide +kernel⟩
theorem b_law (kV doc pm : Value) (an : Option Addr) (cdv ct : Value) (us : List Value) (hl : us.length = 1) : bindArgs (PySem.W.fnOf "law" "law" (defArgs (top 21)) (defBody (top 21)) (defScope (top 21)) .none kV doc pm an cdv ct) ⟨us, []⟩ = pure (List.zip (["_law_script"] : List Str) us) := match us, hl with | [_], _ => rfl
def h_law : He.DefD := ⟨("law", none), "law", "law", defArgs (top 21), defBody (top 21), defScope (top 21), [], []⟩
theorem c__law_box : chkS d__law_box.N (defScope (top 10)) d__law_box.body (defBody (top 10)) = true := by decide +kernel
theorem s__law_box : FnScope d__law_box.N ["_law_script", "_law_k"] (defScope (top 10)) := ⟨rfl, rfl, rfl, by decide +kernel, rfl, by decide +kernel, by decide +kernel⟩
theorem b__law_box (kV doc pm : Value) (an : Option Addr) (cdv ct : Value) (us : List Value) (hl : us.length = 2) : bindArgs (PySem.W.fnOf "_law_box" "_law_box" (defArgs (top 10)) (defBody (top 10)) (defScope (top 10)) .none kV doc pm an cdv ct) ⟨us, []⟩ = pure (List.zip (["_law_script", "_law_k"] : List Str) us) := match us, hl with | [_, _], _ => rfl
def h__law_box : He.DefD := ⟨("_law_box", none), "_law_box", "_law_box", defArgs (top 10), defBody (top 10), defScope (top 10), [], []⟩
theorem c__law_right : chkS d__law_right.N (defScope (top 20)) d__law_right.body (defBody (top 20)) = true := by decide +kernel
theorem s__law_right : FnScope d__law_right.N ["_law_urn"] (defScope (top 20)) := ⟨rfl, rfl, rfl, by decide +kernel, rfl, by decide +kernel, by decide +kernel⟩
theorem b__law_right (kV doc pm : Value) (an : Option Addr) (cdv ct : Value) (us : List Value) (hl : us.length = 1) : bindArgs (PySem.W.fnOf "_law_right" "_law_right" (defArgs (top 20)) (defBody (top 20)) (defScope (top 20)) .none kV doc pm an cdv ct) ⟨us, []⟩ = pure (List.zip (["_law_urn"] : List Str) us) := match us, hl with | [_], _ => rfl
def h__law_right : He.DefD := ⟨("_law_right", none), "_law_right", "_law_right", defArgs (top 20), defBody (top 20), defScope (top 20), [], []⟩
theorem c__law_asked : chkS d__law_asked.N (defScope (top 18)) d__law_asked.body (defBody (top 18)) = true := by decide +kernel
theorem s__law_asked : FnScope d__law_asked.N ["_law_near", "_law_far"] (defScope (top 18)) := ⟨rfl, rfl, rfl, by decide +kernel, rfl, by decide +kernel, by decide +kernel⟩
theorem b__law_asked (kV doc pm : Value) (an : Option Addr) (cdv ct : Value) (us : List Value) (hl : us.length = 2) : bindArgs (PySem.W.fnOf "_law_asked" "_law_asked" (defArgs (top 18)) (defBody (top 18)) (defScope (top 18)) .none kV doc pm an cdv ct) ⟨us, []⟩ = pure (List.zip (["_law_near", "_law_far"] : List Str) us) := match us, hl with | [_, _], _ => rfl
def h__law_asked : He.DefD := ⟨("_law_asked", none), "_law_asked", "_law_asked", defArgs (top 18), defBody (top 18), defScope (top 18), [], []⟩
theorem c__law_same : chkS d__law_same.N (defScope (top 14)) d__law_same.body (defBody (top 14)) = true := by decide +kernel
theorem s__law_same : FnScope d__law_same.N ["_law_got", "_law_goal"] (defScope (top 14)) := ⟨rfl, rfl, rfl, by decide +kernel, rfl, by decide +kernel, by decide +kernel⟩
theorem b__law_same (kV doc pm : Value) (an : Option Addr) (cdv ct : Value) (us : List Value) (hl : us.length = 2) : bindArgs (PySem.W.fnOf "_law_same" "_law_same" (defArgs (top 14)) (defBody (top 14)) (defScope (top 14)) .none kV doc pm an cdv ct) ⟨us, []⟩ = pure (List.zip (["_law_got", "_law_goal"] : List Str) us) := match us, hl with | [_, _], _ => rfl
def h__law_same : He.DefD := ⟨("_law_same", none), "_law_same", "_law_same", defArgs (top 14), defBody (top 14), defScope (top 14), [], []⟩
theorem c_turns_back : chkS d_turns_back.N (defScope (top 8)) d_turns_back.body (defBody (top 8)) = true := by decide +kernel
theorem s_turns_back : FnScope d_turns_back.N ["read", "written"] (defScope (top 8)) := ⟨rfl, rfl, rfl, by decide +kernel, rfl, by decide +kernel, by decide +kernel⟩
theorem b_turns_back (kV doc pm : Value) (an : Option Addr) (cdv ct : Value) (us : List Value) (hl : us.length = 2) : bindArgs (PySem.W.fnOf "turns_back" "turns_back" (defArgs (top 8)) (defBody (top 8)) (defScope (top 8)) .none kV doc pm an cdv ct) ⟨us, []⟩ = pure (List.zip (["read", "written"] : List Str) us) := match us, hl with | [_, _], _ => rfl
theorem k_turns_back_0 (kV doc pm : Value) (an : Option Addr) (cdv ct : Value) (us ws : List Value) (hl : us.length = 0) (hw : ws.length = 2) : bindArgs (PySem.W.fnOf "turns_back" "turns_back" (defArgs (top 8)) (defBody (top 8)) (defScope (top 8)) .none kV doc pm an cdv ct) ⟨us, List.zip (["written", "read"] : List Str) ws⟩ = pure (List.zip (["read", "written"] : List Str) (pick (us ++ ws) [1, 0])) := match us, hl, ws, hw with | [], _, [_, _], _ => rfl
def h_turns_back : He.DefD := ⟨("turns_back", none), "turns_back", "turns_back", defArgs (top 8), defBody (top 8), defScope (top 8), [], []⟩
theorem c_do_touch : chkS d_do_touch.N (defScope (top 7)) d_do_touch.body (defBody (top 7)) = true := by decide +kernel
theorem s_do_touch : FnScope d_do_touch.N ["one", "other"] (defScope (top 7)) := ⟨rfl, rfl, rfl, by decide +kernel, rfl, by decide +kernel, by decide +kernel⟩
theorem b_do_touch (kV doc pm : Value) (an : Option Addr) (cdv ct : Value) (us : List Value) (hl : us.length = 2) : bindArgs (PySem.W.fnOf "do_touch" "do_touch" (defArgs (top 7)) (defBody (top 7)) (defScope (top 7)) .none kV doc pm an cdv ct) ⟨us, []⟩ = pure (List.zip (["one", "other"] : List Str) us) := match us, hl with | [_, _], _ => rfl
theorem k_do_touch_0 (kV doc pm : Value) (an : Option Addr) (cdv ct : Value) (us ws : List Value) (hl : us.length = 0) (hw : ws.length = 2) : bindArgs (PySem.W.fnOf "do_touch" "do_touch" (defArgs (top 7)) (defBody (top 7)) (defScope (top 7)) .none kV doc pm an cdv ct) ⟨us, List.zip (["other", "one"] : List Str) ws⟩ = pure (List.zip (["one", "other"] : List Str) (pick (us ++ ws) [1, 0])) := match us, hl, ws, hw with | [], _, [_, _], _ => rfl
def h_do_touch : He.DefD := ⟨("do_touch", none), "do_touch", "do_touch", defArgs (top 7), defBody (top 7), defScope (top 7), [], []⟩
theorem c_least_turn : chkS d_least_turn.N (defScope (top 4)) d_least_turn.body (defBody (top 4)) = true := by decide +kernel
theorem s_least_turn : FnScope d_least_turn.N ["one", "other"] (defScope (top 4)) := ⟨rfl, rfl, rfl, by decide +kernel, rfl, by decide +kernel, by decide +kernel⟩
theorem b_least_turn (kV doc pm : Value) (an : Option Addr) (cdv ct : Value) (us : List Value) (hl : us.length = 2) : bindArgs (PySem.W.fnOf "least_turn" "least_turn" (defArgs (top 4)) (defBody (top 4)) (defScope (top 4)) .none kV doc pm an cdv ct) ⟨us, []⟩ = pure (List.zip (["one", "other"] : List Str) us) := match us, hl with | [_, _], _ => rfl
def h_least_turn : He.DefD := ⟨("least_turn", none), "least_turn", "least_turn", defArgs (top 4), defBody (top 4), defScope (top 4), [], []⟩
theorem c_divisor : chkS d_divisor.N (defScope (top 1)) d_divisor.body (defBody (top 1)) = true := by decide +kernel
theorem s_divisor : FnScope d_divisor.N ["one", "other"] (defScope (top 1)) := ⟨rfl, rfl, rfl, by decide +kernel, rfl, by decide +kernel, by decide +kernel⟩
theorem b_divisor (kV doc pm : Value) (an : Option Addr) (cdv ct : Value) (us : List Value) (hl : us.length = 2) : bindArgs (PySem.W.fnOf "divisor" "divisor" (defArgs (top 1)) (defBody (top 1)) (defScope (top 1)) .none kV doc pm an cdv ct) ⟨us, []⟩ = pure (List.zip (["one", "other"] : List Str) us) := match us, hl with | [_, _], _ => rfl
def h_divisor : He.DefD := ⟨("divisor", none), "divisor", "divisor", defArgs (top 1), defBody (top 1), defScope (top 1), [], []⟩
theorem c_first_touch : chkS d_first_touch.N (defScope (top 5)) d_first_touch.body (defBody (top 5)) = true := by decide +kernel
theorem s_first_touch : FnScope d_first_touch.N ["one", "other"] (defScope (top 5)) := ⟨rfl, rfl, rfl, by decide +kernel, rfl, by decide +kernel, by decide +kernel⟩
theorem b_first_touch (kV doc pm : Value) (an : Option Addr) (cdv ct : Value) (us : List Value) (hl : us.length = 2) : bindArgs (PySem.W.fnOf "first_touch" "first_touch" (defArgs (top 5)) (defBody (top 5)) (defScope (top 5)) .none kV doc pm an cdv ct) ⟨us, []⟩ = pure (List.zip (["one", "other"] : List Str) us) := match us, hl with | [_, _], _ => rfl
theorem k_first_touch_0 (kV doc pm : Value) (an : Option Addr) (cdv ct : Value) (us ws : List Value) (hl : us.length = 0) (hw : ws.length = 2) : bindArgs (PySem.W.fnOf "first_touch" "first_touch" (defArgs (top 5)) (defBody (top 5)) (defScope (top 5)) .none kV doc pm an cdv ct) ⟨us, List.zip (["other", "one"] : List Str) ws⟩ = pure (List.zip (["one", "other"] : List Str) (pick (us ++ ws) [1, 0])) := match us, hl, ws, hw with | [], _, [_, _], _ => rfl
def h_first_touch : He.DefD := ⟨("first_touch", none), "first_touch", "first_touch", defArgs (top 5), defBody (top 5), defScope (top 5), [], []⟩
theorem c_level_with : chkS d_level_with.N (defScope (top 6)) d_level_with.body (defBody (top 6)) = true := by decide +kernel
theorem s_level_with : FnScope d_level_with.N ["one", "other", "near"] (defScope (top 6)) := ⟨rfl, rfl, rfl, by decide +kernel, rfl, by decide +kernel, by decide +kernel⟩
theorem b_level_with (kV doc pm : Value) (an : Option Addr) (cdv ct : Value) (us : List Value) (hl : us.length = 3) : bindArgs (PySem.W.fnOf "level_with" "level_with" (defArgs (top 6)) (defBody (top 6)) (defScope (top 6)) .none kV doc pm an cdv ct) ⟨us, []⟩ = pure (List.zip (["one", "other", "near"] : List Str) us) := match us, hl with | [_, _, _], _ => rfl
def h_level_with : He.DefD := ⟨("level_with", none), "level_with", "level_with", defArgs (top 6), defBody (top 6), defScope (top 6), [], []⟩
theorem c_cell_at : chkS d_cell_at.N (defScope (top 3)) d_cell_at.body (defBody (top 3)) = true := by decide +kernel
theorem s_cell_at : FnScope d_cell_at.N ["place", "turn"] (defScope (top 3)) := ⟨rfl, rfl, rfl, by decide +kernel, rfl, by decide +kernel, by decide +kernel⟩
theorem b_cell_at (kV doc pm : Value) (an : Option Addr) (cdv ct : Value) (us : List Value) (hl : us.length = 2) : bindArgs (PySem.W.fnOf "cell_at" "cell_at" (defArgs (top 3)) (defBody (top 3)) (defScope (top 3)) .none kV doc pm an cdv ct) ⟨us, []⟩ = pure (List.zip (["place", "turn"] : List Str) us) := match us, hl with | [_, _], _ => rfl
def h_cell_at : He.DefD := ⟨("cell_at", none), "cell_at", "cell_at", defArgs (top 3), defBody (top 3), defScope (top 3), [], []⟩
theorem c__law_shift : chkS d__law_shift.N (defScope (top 17)) d__law_shift.body (defBody (top 17)) = true := by decide +kernel
theorem s__law_shift : FnScope d__law_shift.N ["_law_near", "_law_far"] (defScope (top 17)) := ⟨rfl, rfl, rfl, by decide +kernel, rfl, by decide +kernel, by decide +kernel⟩
theorem b__law_shift (kV doc pm : Value) (an : Option Addr) (cdv ct : Value) (us : List Value) (hl : us.length = 2) : bindArgs (PySem.W.fnOf "_law_shift" "_law_shift" (defArgs (top 17)) (defBody (top 17)) (defScope (top 17)) .none kV doc pm an cdv ct) ⟨us, []⟩ = pure (List.zip (["_law_near", "_law_far"] : List Str) us) := match us, hl with | [_, _], _ => rfl
def h__law_shift : He.DefD := ⟨("_law_shift", none), "_law_shift", "_law_shift", defArgs (top 17), defBody (top 17), defScope (top 17), [], []⟩
theorem c__law_first : chkS d__law_first.N (defScope (top 16)) d__law_first.body (defBody (top 16)) = true := by decide +kernel
theorem s__law_first : FnScope d__law_first.N ["_law_near", "_law_far", "_law_top_so"] (defScope (top 16)) := ⟨rfl, rfl, rfl, by decide +kernel, rfl, by decide +kernel, by decide +kernel⟩
theorem b__law_first (kV doc pm : Value) (an : Option Addr) (cdv ct : Value) (us : List Value) (hl : us.length = 3) : bindArgs (PySem.W.fnOf "_law_first" "_law_first" (defArgs (top 16)) (defBody (top 16)) (defScope (top 16)) .none kV doc pm an cdv ct) ⟨us, []⟩ = pure (List.zip (["_law_near", "_law_far", "_law_top_so"] : List Str) us) := match us, hl with | [_, _, _], _ => rfl
def h__law_first : He.DefD := ⟨("_law_first", none), "_law_first", "_law_first", defArgs (top 16), defBody (top 16), defScope (top 16), [], []⟩
theorem c__law_take : chkS d__law_take.N (defScope (top 11)) d__law_take.body (defBody (top 11)) = true := by decide +kernel
theorem s__law_take : FnScope d__law_take.N ["_law_urn", "_law_low_so"] (defScope (top 11)) := ⟨rfl, rfl, rfl, by decide +kernel, rfl, by decide +kernel, by decide +kernel⟩
theorem b__law_take (kV doc pm : Value) (an : Option Addr) (cdv ct : Value) (us : List Value) (hl : us.length = 2) : bindArgs (PySem.W.fnOf "_law_take" "_law_take" (defArgs (top 11)) (defBody (top 11)) (defScope (top 11)) .none kV doc pm an cdv ct) ⟨us, []⟩ = pure (List.zip (["_law_urn", "_law_low_so"] : List Str) us) := match us, hl with | [_, _], _ => rfl
def h__law_take : He.DefD := ⟨("_law_take", none), "_law_take", "_law_take", defArgs (top 11), defBody (top 11), defScope (top 11), [], []⟩
theorem c__law_of : chkS d__law_of.N (defScope (top 13)) d__law_of.body (defBody (top 13)) = true := by decide +kernel
theorem s__law_of : FnScope d__law_of.N ["_law_urn", "_law_some_so"] (defScope (top 13)) := ⟨rfl, rfl, rfl, by decide +kernel, rfl, by decide +kernel, by decide +kernel⟩
theorem b__law_of (kV doc pm : Value) (an : Option Addr) (cdv ct : Value) (us : List Value) (hl : us.length = 2) : bindArgs (PySem.W.fnOf "_law_of" "_law_of" (defArgs (top 13)) (defBody (top 13)) (defScope (top 13)) .none kV doc pm an cdv ct) ⟨us, []⟩ = pure (List.zip (["_law_urn", "_law_some_so"] : List Str) us) := match us, hl with | [_, _], _ => rfl
def h__law_of : He.DefD := ⟨("_law_of", none), "_law_of", "_law_of", defArgs (top 13), defBody (top 13), defScope (top 13), [], []⟩
theorem c__law_by_hand_right : chkS d__law_by_hand_right.N (defScope (top 19)) d__law_by_hand_right.body (defBody (top 19)) = true := by decide +kernel
theorem s__law_by_hand_right : FnScope d__law_by_hand_right.N [] (defScope (top 19)) := ⟨rfl, rfl, rfl, by decide +kernel, rfl, by decide +kernel, by decide +kernel⟩
theorem b__law_by_hand_right (kV doc pm : Value) (an : Option Addr) (cdv ct : Value) (us : List Value) (hl : us.length = 0) : bindArgs (PySem.W.fnOf "_law_by_hand_right" "_law_by_hand_right" (defArgs (top 19)) (defBody (top 19)) (defScope (top 19)) .none kV doc pm an cdv ct) ⟨us, []⟩ = pure (List.zip ([] : List Str) us) := match us, hl with | [], _ => rfl
def h__law_by_hand_right : He.DefD := ⟨("_law_by_hand_right", none), "_law_by_hand_right", "_law_by_hand_right", defArgs (top 19), defBody (top 19), defScope (top 19), [], []⟩
theorem c__law_spot : chkS d__law_spot.N (defScope (top 15)) d__law_spot.body (defBody (top 15)) = true := by decide +kernel
theorem s__law_spot : FnScope d__law_spot.N ["_law_flat"] (defScope (top 15)) := ⟨rfl, rfl, rfl, by decide +kernel, rfl, by decide +kernel, by decide +kernel⟩
theorem b__law_spot (kV doc pm : Value) (an : Option Addr) (cdv ct : Value) (us : List Value) (hl : us.length = 1) : bindArgs (PySem.W.fnOf "_law_spot" "_law_spot" (defArgs (top 15)) (defBody (top 15)) (defScope (top 15)) .none kV doc pm an cdv ct) ⟨us, []⟩ = pure (List.zip (["_law_flat"] : List Str) us) := match us, hl with | [_], _ => rfl
def h__law_spot : He.DefD := ⟨("_law_spot", none), "_law_spot", "_law_spot", defArgs (top 15), defBody (top 15), defScope (top 15), [], []⟩
theorem c__law_cells : chkS d__law_cells.N (defScope (top 12)) d__law_cells.body (defBody (top 12)) = true := by decide +kernel
theorem s__law_cells : FnScope d__law_cells.N ["_law_script", "_law_top"] (defScope (top 12)) := ⟨rfl, rfl, rfl, by decide +kernel, rfl, by decide +kernel, by decide +kernel⟩
theorem b__law_cells (kV doc pm : Value) (an : Option Addr) (cdv ct : Value) (us : List Value) (hl : us.length = 2) : bindArgs (PySem.W.fnOf "_law_cells" "_law_cells" (defArgs (top 12)) (defBody (top 12)) (defScope (top 12)) .none kV doc pm an cdv ct) ⟨us, []⟩ = pure (List.zip (["_law_script", "_law_top"] : List Str) us) := match us, hl with | [_, _], _ => rfl
def h__law_cells : He.DefD := ⟨("_law_cells", none), "_law_cells", "_law_cells", defArgs (top 12), defBody (top 12), defScope (top 12), [], []⟩
def fn : List He.DefD := [h_law, h__law_box, h__law_right, h__law_asked, h__law_same, h_turns_back, h_do_touch, h_least_turn, h_divisor, h_first_touch, h_level_with, h_cell_at, h__law_shift, h__law_first, h__law_take, h__law_of, h__law_by_hand_right, h__law_spot, h__law_cells]
def fa : List He.Fa := [.glo "law", .glo "_law_box", .glo "_law_right", .glo "_law_asked", .glo "_law_same", .glo "turns_back", .glo "do_touch", .glo "least_turn", .glo "divisor", .glo "first_touch", .glo "level_with", .glo "cell_at", .glo "_law_shift", .glo "_law_first", .glo "_law_take", .glo "_law_of", .glo "_law_by_hand_right", .glo "_law_spot", .glo "_law_cells", .free "len", .free "abs", .free "max", .free "min", .free "int", .free "str", .free "all", .free "any", .free "list", .free "tuple", .free "isinstance", .free "sum", .free "sorted", .free "set", .free "dict", .free "bool", .free "range", .free "enumerate", .free "zip"]
section
variable {K : PySem.W.Frag} {mg : Str → Option Value} {h : Heap}
theorem f_law (X : K.In h) (G : h.Ns mainGlobals mg) (c : He.SaysD fa fn K) : FnFact K mg "law" d_law := by
  obtain ⟨fd, F⟩ := c.def_ 0 (d := h_law) rfl
  exact ⟨_, fd, ["_law_script"], _, _, _, _, _, F, s_law, He.glo_ok X G (c.fact 0 (f := .glo "law") rfl), FunD.bindsN F b_law, rfl, c_law, fun n ks pm hk => by cases hk⟩
theorem f__law_box (X : K.In h) (G : h.Ns mainGlobals mg) (c : He.SaysD fa fn K) : FnFact K mg "_law_box" d__law_box := by
  obtain ⟨fd, F⟩ := c.def_ 1 (d := h__law_box) rfl
  exact ⟨_, fd, ["_law_script", "_law_k"], _, _, _, _, _, F, s__law_box, He.glo_ok X G (c.fact 1 (f := .glo "_law_box") rfl), FunD.bindsN F b__law_box, rfl, c__law_box, fun n ks pm hk => by cases hk⟩
theorem f__law_right (X : K.In h) (G : h.Ns mainGlobals mg) (c : He.SaysD fa fn K) : FnFact K mg "_law_right" d__law_right := by
  obtain ⟨fd, F⟩ := c.def_ 2 (d := h__law_right) rfl
  exact ⟨_, fd, ["_law_urn"], _, _, _, _, _, F, s__law_right, He.glo_ok X G (c.fact 2 (f := .glo "_law_right") rfl), FunD.bindsN F b__law_right, rfl, c__law_right, fun n ks pm hk => by cases hk⟩
theorem f__law_asked (X : K.In h) (G : h.Ns mainGlobals mg) (c : He.SaysD fa fn K) : FnFact K mg "_law_asked" d__law_asked := by
  obtain ⟨fd, F⟩ := c.def_ 3 (d := h__law_asked) rfl
  exact ⟨_, fd, ["_law_near", "_law_far"], _, _, _, _, _, F, s__law_asked, He.glo_ok X G (c.fact 3 (f := .glo "_law_asked") rfl), FunD.bindsN F b__law_asked, rfl, c__law_asked, fun n ks pm hk => by cases hk⟩
theorem f__law_same (X : K.In h) (G : h.Ns mainGlobals mg) (c : He.SaysD fa fn K) : FnFact K mg "_law_same" d__law_same := by
  obtain ⟨fd, F⟩ := c.def_ 4 (d := h__law_same) rfl
  exact ⟨_, fd, ["_law_got", "_law_goal"], _, _, _, _, _, F, s__law_same, He.glo_ok X G (c.fact 4 (f := .glo "_law_same") rfl), FunD.bindsN F b__law_same, rfl, c__law_same, fun n ks pm hk => by cases hk⟩
theorem f_turns_back (X : K.In h) (G : h.Ns mainGlobals mg) (c : He.SaysD fa fn K) : FnFact K mg "turns_back" d_turns_back := by
  obtain ⟨fd, F⟩ := c.def_ 5 (d := h_turns_back) rfl
  refine ⟨_, fd, ["read", "written"], _, _, _, _, _, F, s_turns_back, He.glo_ok X G (c.fact 5 (f := .glo "turns_back") rfl), FunD.bindsN F b_turns_back, rfl, c_turns_back, fun n ks pm hk => ?_⟩
  have hk' := kwOf_mem hk
  simp only [d_turns_back, List.mem_cons, List.not_mem_nil, or_false, Prod.mk.injEq] at hk'
  rcases hk' with ⟨rfl, rfl, rfl⟩
  · exact kbn_of F (fun kV doc pm an cdv ct us ws hl hw => k_turns_back_0 kV doc pm an cdv ct us ws hl hw)
theorem f_do_touch (X : K.In h) (G : h.Ns mainGlobals mg) (c : He.SaysD fa fn K) : FnFact K mg "do_touch" d_do_touch := by
  obtain ⟨fd, F⟩ := c.def_ 6 (d := h_do_touch) rfl
  refine ⟨_, fd, ["one", "other"], _, _, _, _, _, F, s_do_touch, He.glo_ok X G (c.fact 6 (f := .glo "do_touch") rfl), FunD.bindsN F b_do_touch, rfl, c_do_touch, fun n ks pm hk => ?_⟩
  have hk' := kwOf_mem hk
  simp only [d_do_touch, List.mem_cons, List.not_mem_nil, or_false, Prod.mk.injEq] at hk'
  rcases hk' with ⟨rfl, rfl, rfl⟩
  · exact kbn_of F (fun kV doc pm an cdv ct us ws hl hw => k_do_touch_0 kV doc pm an cdv ct us ws hl hw)
theorem f_least_turn (X : K.In h) (G : h.Ns mainGlobals mg) (c : He.SaysD fa fn K) : FnFact K mg "least_turn" d_least_turn := by
  obtain ⟨fd, F⟩ := c.def_ 7 (d := h_least_turn) rfl
  exact ⟨_, fd, ["one", "other"], _, _, _, _, _, F, s_least_turn, He.glo_ok X G (c.fact 7 (f := .glo "least_turn") rfl), FunD.bindsN F b_least_turn, rfl, c_least_turn, fun n ks pm hk => by cases hk⟩
theorem f_divisor (X : K.In h) (G : h.Ns mainGlobals mg) (c : He.SaysD fa fn K) : FnFact K mg "divisor" d_divisor := by
  obtain ⟨fd, F⟩ := c.def_ 8 (d := h_divisor) rfl
  exact ⟨_, fd, ["one", "other"], _, _, _, _, _, F, s_divisor, He.glo_ok X G (c.fact 8 (f := .glo "divisor") rfl), FunD.bindsN F b_divisor, rfl, c_divisor, fun n ks pm hk => by cases hk⟩
theorem f_first_touch (X : K.In h) (G : h.Ns mainGlobals mg) (c : He.SaysD fa fn K) : FnFact K mg "first_touch" d_first_touch := by
  obtain ⟨fd, F⟩ := c.def_ 9 (d := h_first_touch) rfl
  refine ⟨_, fd, ["one", "other"], _, _, _, _, _, F, s_first_touch, He.glo_ok X G (c.fact 9 (f := .glo "first_touch") rfl), FunD.bindsN F b_first_touch, rfl, c_first_touch, fun n ks pm hk => ?_⟩
  have hk' := kwOf_mem hk
  simp only [d_first_touch, List.mem_cons, List.not_mem_nil, or_false, Prod.mk.injEq] at hk'
  rcases hk' with ⟨rfl, rfl, rfl⟩
  · exact kbn_of F (fun kV doc pm an cdv ct us ws hl hw => k_first_touch_0 kV doc pm an cdv ct us ws hl hw)
theorem f_level_with (X : K.In h) (G : h.Ns mainGlobals mg) (c : He.SaysD fa fn K) : FnFact K mg "level_with" d_level_with := by
  obtain ⟨fd, F⟩ := c.def_ 10 (d := h_level_with) rfl
  exact ⟨_, fd, ["one", "other", "near"], _, _, _, _, _, F, s_level_with, He.glo_ok X G (c.fact 10 (f := .glo "level_with") rfl), FunD.bindsN F b_level_with, rfl, c_level_with, fun n ks pm hk => by cases hk⟩
theorem f_cell_at (X : K.In h) (G : h.Ns mainGlobals mg) (c : He.SaysD fa fn K) : FnFact K mg "cell_at" d_cell_at := by
  obtain ⟨fd, F⟩ := c.def_ 11 (d := h_cell_at) rfl
  exact ⟨_, fd, ["place", "turn"], _, _, _, _, _, F, s_cell_at, He.glo_ok X G (c.fact 11 (f := .glo "cell_at") rfl), FunD.bindsN F b_cell_at, rfl, c_cell_at, fun n ks pm hk => by cases hk⟩
theorem f__law_shift (X : K.In h) (G : h.Ns mainGlobals mg) (c : He.SaysD fa fn K) : FnFact K mg "_law_shift" d__law_shift := by
  obtain ⟨fd, F⟩ := c.def_ 12 (d := h__law_shift) rfl
  exact ⟨_, fd, ["_law_near", "_law_far"], _, _, _, _, _, F, s__law_shift, He.glo_ok X G (c.fact 12 (f := .glo "_law_shift") rfl), FunD.bindsN F b__law_shift, rfl, c__law_shift, fun n ks pm hk => by cases hk⟩
theorem f__law_first (X : K.In h) (G : h.Ns mainGlobals mg) (c : He.SaysD fa fn K) : FnFact K mg "_law_first" d__law_first := by
  obtain ⟨fd, F⟩ := c.def_ 13 (d := h__law_first) rfl
  exact ⟨_, fd, ["_law_near", "_law_far", "_law_top_so"], _, _, _, _, _, F, s__law_first, He.glo_ok X G (c.fact 13 (f := .glo "_law_first") rfl), FunD.bindsN F b__law_first, rfl, c__law_first, fun n ks pm hk => by cases hk⟩
theorem f__law_take (X : K.In h) (G : h.Ns mainGlobals mg) (c : He.SaysD fa fn K) : FnFact K mg "_law_take" d__law_take := by
  obtain ⟨fd, F⟩ := c.def_ 14 (d := h__law_take) rfl
  exact ⟨_, fd, ["_law_urn", "_law_low_so"], _, _, _, _, _, F, s__law_take, He.glo_ok X G (c.fact 14 (f := .glo "_law_take") rfl), FunD.bindsN F b__law_take, rfl, c__law_take, fun n ks pm hk => by cases hk⟩
theorem f__law_of (X : K.In h) (G : h.Ns mainGlobals mg) (c : He.SaysD fa fn K) : FnFact K mg "_law_of" d__law_of := by
  obtain ⟨fd, F⟩ := c.def_ 15 (d := h__law_of) rfl
  exact ⟨_, fd, ["_law_urn", "_law_some_so"], _, _, _, _, _, F, s__law_of, He.glo_ok X G (c.fact 15 (f := .glo "_law_of") rfl), FunD.bindsN F b__law_of, rfl, c__law_of, fun n ks pm hk => by cases hk⟩
theorem f__law_by_hand_right (X : K.In h) (G : h.Ns mainGlobals mg) (c : He.SaysD fa fn K) : FnFact K mg "_law_by_hand_right" d__law_by_hand_right := by
  obtain ⟨fd, F⟩ := c.def_ 16 (d := h__law_by_hand_right) rfl
  exact ⟨_, fd, [], _, _, _, _, _, F, s__law_by_hand_right, He.glo_ok X G (c.fact 16 (f := .glo "_law_by_hand_right") rfl), FunD.bindsN F b__law_by_hand_right, rfl, c__law_by_hand_right, fun n ks pm hk => by cases hk⟩
theorem f__law_spot (X : K.In h) (G : h.Ns mainGlobals mg) (c : He.SaysD fa fn K) : FnFact K mg "_law_spot" d__law_spot := by
  obtain ⟨fd, F⟩ := c.def_ 17 (d := h__law_spot) rfl
  exact ⟨_, fd, ["_law_flat"], _, _, _, _, _, F, s__law_spot, He.glo_ok X G (c.fact 17 (f := .glo "_law_spot") rfl), FunD.bindsN F b__law_spot, rfl, c__law_spot, fun n ks pm hk => by cases hk⟩
theorem f__law_cells (X : K.In h) (G : h.Ns mainGlobals mg) (c : He.SaysD fa fn K) : FnFact K mg "_law_cells" d__law_cells := by
  obtain ⟨fd, F⟩ := c.def_ 18 (d := h__law_cells) rfl
  exact ⟨_, fd, ["_law_script", "_law_top"], _, _, _, _, _, F, s__law_cells, He.glo_ok X G (c.fact 18 (f := .glo "_law_cells") rfl), FunD.bindsN F b__law_cells, rfl, c__law_cells, fun n ks pm hk => by cases hk⟩
theorem tabOk (X : K.In h) (G : h.Ns mainGlobals mg) (c : He.SaysD fa fn K) : TabOk K mg cst T := by
  refine ⟨fun f d hT => ?_, fun f => ?_, fun t ht => ?_, ?_, ?_, ?_, fun x v h => by cases h⟩
  · have hm := lookup_mem (show tab.lookup f = some d from hT)
    simp only [tab, List.mem_cons, List.not_mem_nil, or_false, Prod.mk.injEq] at hm
    rcases hm with ⟨rfl, rfl⟩ | ⟨rfl, rfl⟩ | ⟨rfl, rfl⟩ | ⟨rfl, rfl⟩ | ⟨rfl, rfl⟩ | ⟨rfl, rfl⟩ | ⟨rfl, rfl⟩ | ⟨rfl, rfl⟩ | ⟨rfl, rfl⟩ | ⟨rfl, rfl⟩ | ⟨rfl, rfl⟩ | ⟨rfl, rfl⟩ | ⟨rfl, rfl⟩ | ⟨rfl, rfl⟩ | ⟨rfl, rfl⟩ | ⟨rfl, rfl⟩ | ⟨rfl, rfl⟩ | ⟨rfl, rfl⟩ | ⟨rfl, rfl⟩
    · exact f_law X G c
    · exact f__law_box X G c
    · exact f__law_right X G c
    · exact f__law_asked X G c
    · exact f__law_same X G c
    · exact f_turns_back X G c
    · exact f_do_touch X G c
    · exact f_least_turn X G c
    · exact f_divisor X G c
    · exact f_first_touch X G c
    · exact f_level_with X G c
    · exact f_cell_at X G c
    · exact f__law_shift X G c
    · exact f__law_first X G c
    · exact f__law_take X G c
    · exact f__law_of X G c
    · exact f__law_by_hand_right X G c
    · exact f__law_spot X G c
    · exact f__law_cells X G c
  · cases f
    · exact He.free_ok X G (c.fact 19 (f := .free "len") rfl)
    · exact He.free_ok X G (c.fact 20 (f := .free "abs") rfl)
    · exact He.free_ok X G (c.fact 21 (f := .free "max") rfl)
    · exact He.free_ok X G (c.fact 22 (f := .free "min") rfl)
    · exact He.free_ok X G (c.fact 23 (f := .free "int") rfl)
    · exact He.free_ok X G (c.fact 24 (f := .free "str") rfl)
    · exact He.free_ok X G (c.fact 25 (f := .free "all") rfl)
    · exact He.free_ok X G (c.fact 26 (f := .free "any") rfl)
    · exact He.free_ok X G (c.fact 27 (f := .free "list") rfl)
    · exact He.free_ok X G (c.fact 28 (f := .free "tuple") rfl)
    · exact He.free_ok X G (c.fact 29 (f := .free "isinstance") rfl)
    · exact He.free_ok X G (c.fact 30 (f := .free "sum") rfl)
    · exact He.free_ok X G (c.fact 31 (f := .free "sorted") rfl)
    · exact He.free_ok X G (c.fact 32 (f := .free "set") rfl)
    · exact He.free_ok X G (c.fact 33 (f := .free "dict") rfl)
  · cases t
    · exact absurd rfl ht
    · exact He.free_ok X G (c.fact 34 (f := .free "bool") rfl)
    · exact He.free_ok X G (c.fact 23 (f := .free "int") rfl)
    · exact He.free_ok X G (c.fact 24 (f := .free "str") rfl)
    · exact He.free_ok X G (c.fact 28 (f := .free "tuple") rfl)
    · exact He.free_ok X G (c.fact 27 (f := .free "list") rfl)
    · exact He.free_ok X G (c.fact 33 (f := .free "dict") rfl)
    · exact He.free_ok X G (c.fact 32 (f := .free "set") rfl)
  · exact He.free_ok X G (c.fact 35 (f := .free "range") rfl)
  · exact He.free_ok X G (c.fact 36 (f := .free "enumerate") rfl)
  · exact He.free_ok X G (c.fact 37 (f := .free "zip") rfl)
end
abbrev R : PySem.W.OpenRow := PySem.W.OpenLaw.row PySem.Challenge.rw_builtahead_k52_places_that_touch
abbrev hk : PySem.W.Hook := He.hookD 4 fa fn
def ob (s : PySem.W.SharedT) : He.AlD := He.obsDG 4 fa fn (HandSHeadRun.getT s)
theorem ob_eq (s : PySem.W.SharedT) : ob s = hk.obs s.abs := He.obsDG_eq (HandSHeadRun.getT_eq s)
def loose : List Str := ["divisor", "cell_at", "least_turn", "first_touch", "level_with", "do_touch", "turns_back", "_law_box", "_law_take", "_law_cells", "_law_of", "_law_same", "_law_spot", "_law_first", "_law_shift", "_law_asked", "_law_by_hand_right", "_law_right"]
theorem run (w : World) : HandSHeadRun.RunEq R (PySem.W.view R.prog [21]) hk ob 4000 loose w := by
  intro os
  kernel_rfl
/-- what is asked of the pure run -/
def Fine (n : Nat) : Prop := ∀ ns : List Int, ns.length ≤ 63 → ∃ fl outs, (calN cst T n).run "law" [.scr (ns.map PV.int)] = .ok (.bl true, fl) outs
theorem facts {P : Program} {w : World} {K : PySem.W.Frag} {h : Heap} {mg : Str → Option Value} {f : Addr} {n : Nat} (fine : Fine (n + 1)) (X : K.In h) (G : h.Ns mainGlobals mg) (hfa : mg ("law" : Str) = some (.ref f)) (c : He.SaysD fa fn K) :
    ∃ (fd : FuncData) (sp : Sp), (∀ (s : Shared) (v : Value), BindsTo s fd ⟨[v], []⟩ [("_law_script", v)]) ∧ (∀ (H : Hp) (a : Addr) (ns : List Int), ns.length ≤ 63 → SqL K H a (ns.map V.int) → sp [.ref a] H (fun v _ => v = .bl true) fun _ _ _ => False) ∧ ∀ base : Heap, K.In base → base.Ns mainGlobals mg → FnOk P w K mg base CX0 (n + 1) f fd ["_law_script"] sp := by
  obtain ⟨fd, F⟩ := c.def_ 0 (d := h_law) rfl
  have e := hfa.symm.trans (He.glo_ok X G (c.fact 0 (f := .glo "law") rfl))
  cases e
  have b := FunD.bindsA (ps := ["_law_script"]) F b_law
  refine ⟨fd, _, fun s v => b s [v] rfl, fun H a ns hl hS => ?_, fun base _ _ => law_ok (fn_all (tabOk X G c) (n + 1) "law" d_law rfl _ fd _ _ _ _ _ _ F s_law rfl c_law)⟩
  obtain ⟨fl, outs, hr⟩ := fine ns hl
  exact law_sp rfl hS fl outs hr
end K52
section
open PySem PySem.W PySem.Calls PyProof.Rows
theorem K52.holds {n : Nat} (fine : K52.Fine (n + 1)) (hr : L2.Room (n + 1) PySem.callerA) : PySem.Challenge.rw_builtahead_k52_places_that_touch.Holds := by
  w_on; o_law
  refine HandSHeadRun.head_any (r := OpenLaw.row PySem.Challenge.rw_builtahead_k52_places_that_touch) (q := view (OpenLaw.row PySem.Challenge.rw_builtahead_k52_places_that_touch).prog [21]) (H := K52.hk) (ob := K52.ob) (M := 4000) (loose := K52.loose) (d := HandSHeadRun.topDef (OpenLaw.row PySem.Challenge.rw_builtahead_k52_places_that_touch).prog 21) (kwd := []) K52.ob_eq
    (by kernel_rfl) (fun s => by kernel_rfl) K52.run (by kernel_rfl) (by kernel_rfl) (by kernel_rfl) (by rfl) (by first | assumption | decide +kernel) (by decide +kernel) ⟨rfl, rfl, rfl, rfl, rfl, by decide +kernel⟩ ?hw ?hc
  case hw => w_witness2
  case hc =>
    refine L2.walk_ofE (l := PySem.Challenge.rw_builtahead_k52_places_that_touch) (n := 63) (k := n + 1) (x := "_law_script") (CX := L2.CX0) rfl (by decide) (by kernel_rfl) hr ?F (fun _ _ _ _ z => z)
    intro w mg fa h Y G hmg0
    obtain ⟨K, KX, c⟩ := Y
    have hmg : mg ("law" : PySem.Str) = some (.ref fa) := by
      have e : (HandSHeadRun.topDef (OpenLaw.row PySem.Challenge.rw_builtahead_k52_places_that_touch).prog 21).name = ("law" : PySem.Str) := by kernel_rfl
      rw [← e]
      exact hmg0
    obtain ⟨fd, sp, hb, hs, hF⟩ := K52.facts (P := (PySem.Challenge.rw_builtahead_k52_places_that_touch).prog) (w := w) fine KX G hmg c
    exact ⟨K, fd, sp, KX, hb, fun H a ns hl _ hS => hs H a ns hl hS, hF⟩
end

namespace K52
open PySem L2 Bd
/-- a place: what stands at 0, 1, 2 -/
structure Pl (p : PV) (t : Str) (a b : Int) : Prop where
  i0 : ixP p (.int 0) = some (.str t)
  i1 : ixP p (.int 1) = some (.int a)
  i2 : ixP p (.int 2) = some (.int b)
theorem pl_tup (t : Str) (a b : Int) : Pl (.tup [.str t, .int a, .int b]) t a b := ⟨rfl, rfl, rfl⟩
theorem pl_lst (t : Str) (a b : Int) : Pl (.lst [.str t, .int a, .int b]) t a b := ⟨rfl, rfl, rfl⟩
def oI : Option Int → PV
  | some i => .int i
  | none => .non
def oP : Option (Int × Int) → PV
  | some (i, j) => .tup [.int i, .int j]
  | none => .non
/-! ### by going turn by turn -/
def fstL (a1 b1 a2 b2 : Int) : List Int → Option (Int × Int)
  | [] => none
  | k :: ks => if a2 = 0 ∧ a1 * k + b1 - b2 = 0 then some (k, 0) else if 0 < a2 ∧ 0 ≤ a1 * k + b1 - b2 ∧ (a1 * k + b1 - b2) % a2 = 0 then some (k, (a1 * k + b1 - b2) / a2) else fstL a1 b1 a2 b2 ks
def fstB : IS := (.seq (.asg 4 (.bin .Sub (.bin .Add (.bin .Mult (.sub (.var 0) (.int 1)) (.var 3)) (.sub (.var 0) (.int 2))) (.sub (.var 1) (.int 2))))
 (.seq (.ife (.and (.cmp .Eq (.sub (.var 1) (.int 1)) (.int 0)) (.cmp .Eq (.var 4) (.int 0)))
 (.seq (.ret (.tup (.cons (.var 3) (.cons (.int 0) .nil))))
 .nil)
 .nil)
 (.seq (.ife (.and (.cmp .Gt (.sub (.var 1) (.int 1)) (.int 0)) (.and (.cmp .GtE (.var 4) (.int 0)) (.cmp .Eq (.bin .Mod (.blt .int (.cons (.var 4) .nil)) (.sub (.var 1) (.int 1))) (.int 0))))
 (.seq (.ret (.tup (.cons (.var 3) (.cons (.bin .FloorDiv (.var 4) (.sub (.var 1) (.int 1))) .nil))))
 .nil)
 .nil)
 .nil)))
theorem fst_turn {C : Cal} {p q x : PV} {t u : Str} {a1 b1 a2 b2 k : Int} (hp : Pl p t a1 b1) (hq : Pl q u a2 b2) (s1 : smallI a1 = true) (l2 : 0 ≤ a2) (g2 : a2 < 1073741824) (v : Option (PV × Fl)) :
    exec C fstB [some (p, .fz), some (q, .fz), some (x, .fz), some (.int k, .fz), v] = (if a2 = 0 ∧ a1 * k + b1 - b2 = 0 then .ret (.tup [.int k, .int 0], .fz) [some (p, .fz), some (q, .fz), some (x, .fz), some (.int k, .fz), some (.int (a1 * k + b1 - b2), .fz)]
      else if 0 < a2 ∧ 0 ≤ a1 * k + b1 - b2 ∧ (a1 * k + b1 - b2) % a2 = 0 then .ret (.tup [.int k, .int ((a1 * k + b1 - b2) / a2)], .fz) [some (p, .fz), some (q, .fz), some (x, .fz), some (.int k, .fz), some (.int (a1 * k + b1 - b2), .fz)]
      else .nx [some (p, .fz), some (q, .fz), some (x, .fz), some (.int k, .fz), some (.int (a1 * k + b1 - b2), .fz)]) := by
  have p1 := hp.i1
  have p2 := hp.i2
  have q1 := hq.i1
  have q2 := hq.i2
  unfold fstB
  by_cases h : a2 = 0
  · subst h
    by_cases hg : a1 * k + b1 - b2 = 0
    · rw [if_pos ⟨rfl, hg⟩]
      simp only [bd_ok, bd_exc, bd_bad, fo_ok, fo_exc, th_nx, th_ret, th_exc, th_brk, th_cnt, tk_nx, tk_cnt, tk_brk, tk_ret, tk_exc, x_nil, x_seq, kAsg_eq, x_asg, kUnp_eq, x_unp, kPar_eq, x_par, kSet2_eq, kSet1_eq, x_seti, kApp_eq, x_app, kExpr_eq, x_expr, x_ret, x_retN, kIf_eq, x_ife, kLoop_eq, x_loop, x_whl, kWh_eq, x_brk, x_cnt, x_pass, kCl2_eq, kCl1_eq, kTr_eq, kB2_eq, kB1_eq, kU_eq, kTup_eq, kLst_eq, kS2_eq, kS1_eq, kC3_eq, kC2_eq, kC1_eq, kCall_eq, kK2_eq, kK1_eq, kBl_eq, kM2_eq, kM1_eq, kCo_eq, kRg_eq, kEn_eq, kZ2_eq, kZ1_eq, v_int, t_int, v_str, t_str, v_bl, t_bl, v_non, t_non, v_cst, t_cst, v_fnv, t_fnv, v_tyv, t_tyv, v_bin, t_bin, v_un, t_un, v_tup, t_tup, v_lst, t_lst, v_sub, t_sub, v_slc, t_slc, v_call, t_call, v_callk, t_callk, v_blt, t_blt, v_mth, t_mth, v_comp, t_comp, v_rng, t_rng, v_enm, t_enm, v_zip, t_zip, kVb_eq, kQ2_eq, kQ1_eq, kH4_eq, kH3_eq, kH2_eq, kH1_eq, v_cmp, t_cmp, v_chn, t_chn, v_var, t_var, kN2_eq, kN1_eq, kNt_eq, v_not, t_not, kAn_eq, kAt_eq, v_and, t_and, kOn_eq, kOt_eq, v_or, t_or, kIv_eq, kIt_eq, v_ife, t_ife, v_seq, v_no, kOs2_eq, kOs1_eq, os_nil, os_cons, kF2_eq, kF1_eq, f_nil, f_cons, kG2_eq, kG1_eq, kG3_eq, g_nil, g_val, g_slot, kGt_eq, g_tmpc, o_var, kIe_eq, it_ev, p_no, kRt_eq, r_var, kV_eq, kPt_eq, o_int, r_int, p_int, o_str, r_str, p_str, o_bl, r_bl, p_bl, o_non, r_non, p_non, o_cst, r_cst, p_cst, o_fnv, r_fnv, p_fnv, o_tyv, r_tyv, p_tyv, o_bin, r_bin, p_bin, o_un, r_un, p_un, o_tup, r_tup, p_tup, o_lst, r_lst, p_lst, o_sub, r_sub, p_sub, o_slc, r_slc, p_slc, o_call, r_call, p_call, o_callk, r_callk, p_callk, o_blt, r_blt, p_blt, o_mth, r_mth, p_mth, o_comp, r_comp, p_comp, o_rng, r_rng, p_rng, o_enm, r_enm, p_enm, o_zip, r_zip, p_zip, o_cmp, r_cmp, p_cmp, o_chn, r_chn, p_chn, o_not, r_not, p_not, o_and, r_and, p_and, o_or, r_or, p_or, o_ife, r_ife, p_ife, p_var, kT3_eq, kT2_eq, evVar, tsVar, liftO, liftB, flOf, fzO, okIf, cmp2, rsO, rsOs, unP, truth, lstAt, argV, argVs, slotsOf, argBack, setP, itO, itemsP, setPar, isNonP, kindO, seqOf, ownFz, wipeE, unwipe, consO, enmP, zipP, List.all_cons, List.all_nil, Bool.and_true, Bool.true_and, Bool.and_self, Option.bind_some, Option.map_some, List.getElem?_cons_zero, List.getElem?_cons_succ, List.set_cons_zero, List.set_cons_succ, Option.isSome_some, if_true, if_false, ite_true, ite_false, decide_true, decide_false, Bool.not_true, Bool.not_false, reduceIte, Bool.false_eq_true, p1, p2, q1, q2, mul_l _ _ s1, add_p, sub_p, eq_ii, hg, beq_self_eq_true, sz0, sz1, sz2, sz3, sz4, sz5, sz6, sz7, sz8, sz9, sz10, sz11, sz12, sz13, sz14, sz15, sz16, sz17, sz18, sz19, sz20]
    · have hg' : (a1 * k + b1 - b2 == 0) = false := by simpa using hg
      rw [if_neg fun z => hg z.2, if_neg fun z => absurd z.1 (by omega)]
      simp only [bd_ok, bd_exc, bd_bad, fo_ok, fo_exc, th_nx, th_ret, th_exc, th_brk, th_cnt, tk_nx, tk_cnt, tk_brk, tk_ret, tk_exc, x_nil, x_seq, kAsg_eq, x_asg, kUnp_eq, x_unp, kPar_eq, x_par, kSet2_eq, kSet1_eq, x_seti, kApp_eq, x_app, kExpr_eq, x_expr, x_ret, x_retN, kIf_eq, x_ife, kLoop_eq, x_loop, x_whl, kWh_eq, x_brk, x_cnt, x_pass, kCl2_eq, kCl1_eq, kTr_eq, kB2_eq, kB1_eq, kU_eq, kTup_eq, kLst_eq, kS2_eq, kS1_eq, kC3_eq, kC2_eq, kC1_eq, kCall_eq, kK2_eq, kK1_eq, kBl_eq, kM2_eq, kM1_eq, kCo_eq, kRg_eq, kEn_eq, kZ2_eq, kZ1_eq, v_int, t_int, v_str, t_str, v_bl, t_bl, v_non, t_non, v_cst, t_cst, v_fnv, t_fnv, v_tyv, t_tyv, v_bin, t_bin, v_un, t_un, v_tup, t_tup, v_lst, t_lst, v_sub, t_sub, v_slc, t_slc, v_call, t_call, v_callk, t_callk, v_blt, t_blt, v_mth, t_mth, v_comp, t_comp, v_rng, t_rng, v_enm, t_enm, v_zip, t_zip, kVb_eq, kQ2_eq, kQ1_eq, kH4_eq, kH3_eq, kH2_eq, kH1_eq, v_cmp, t_cmp, v_chn, t_chn, v_var, t_var, kN2_eq, kN1_eq, kNt_eq, v_not, t_not, kAn_eq, kAt_eq, v_and, t_and, kOn_eq, kOt_eq, v_or, t_or, kIv_eq, kIt_eq, v_ife, t_ife, v_seq, v_no, kOs2_eq, kOs1_eq, os_nil, os_cons, kF2_eq, kF1_eq, f_nil, f_cons, kG2_eq, kG1_eq, kG3_eq, g_nil, g_val, g_slot, kGt_eq, g_tmpc, o_var, kIe_eq, it_ev, p_no, kRt_eq, r_var, kV_eq, kPt_eq, o_int, r_int, p_int, o_str, r_str, p_str, o_bl, r_bl, p_bl, o_non, r_non, p_non, o_cst, r_cst, p_cst, o_fnv, r_fnv, p_fnv, o_tyv, r_tyv, p_tyv, o_bin, r_bin, p_bin, o_un, r_un, p_un, o_tup, r_tup, p_tup, o_lst, r_lst, p_lst, o_sub, r_sub, p_sub, o_slc, r_slc, p_slc, o_call, r_call, p_call, o_callk, r_callk, p_callk, o_blt, r_blt, p_blt, o_mth, r_mth, p_mth, o_comp, r_comp, p_comp, o_rng, r_rng, p_rng, o_enm, r_enm, p_enm, o_zip, r_zip, p_zip, o_cmp, r_cmp, p_cmp, o_chn, r_chn, p_chn, o_not, r_not, p_not, o_and, r_and, p_and, o_or, r_or, p_or, o_ife, r_ife, p_ife, p_var, kT3_eq, kT2_eq, evVar, tsVar, liftO, liftB, flOf, fzO, okIf, cmp2, rsO, rsOs, unP, truth, lstAt, argV, argVs, slotsOf, argBack, setP, itO, itemsP, setPar, isNonP, kindO, seqOf, ownFz, wipeE, unwipe, consO, enmP, zipP, List.all_cons, List.all_nil, Bool.and_true, Bool.true_and, Bool.and_self, Option.bind_some, Option.map_some, List.getElem?_cons_zero, List.getElem?_cons_succ, List.set_cons_zero, List.set_cons_succ, Option.isSome_some, if_true, if_false, ite_true, ite_false, decide_true, decide_false, Bool.not_true, Bool.not_false, reduceIte, Bool.false_eq_true, p1, p2, q1, q2, mul_l _ _ s1, add_p, sub_p, eq_ii, gt_ii, hg', beq_self_eq_true, Int.lt_irrefl, sz0, sz1, sz2, sz3, sz4, sz5, sz6, sz7, sz8, sz9, sz10, sz11, sz12, sz13, sz14, sz15, sz16, sz17, sz18, sz19, sz20]
  · have h' : (a2 == 0) = false := by simpa using h
    have hpos : 0 < a2 := by omega
    rw [if_neg fun z => h z.1]
    by_cases h0 : 0 ≤ a1 * k + b1 - b2
    · by_cases hm : (a1 * k + b1 - b2) % a2 = 0
      · rw [if_pos ⟨hpos, h0, hm⟩]
        simp only [bd_ok, bd_exc, bd_bad, fo_ok, fo_exc, th_nx, th_ret, th_exc, th_brk, th_cnt, tk_nx, tk_cnt, tk_brk, tk_ret, tk_exc, x_nil, x_seq, kAsg_eq, x_asg, kUnp_eq, x_unp, kPar_eq, x_par, kSet2_eq, kSet1_eq, x_seti, kApp_eq, x_app, kExpr_eq, x_expr, x_ret, x_retN, kIf_eq, x_ife, kLoop_eq, x_loop, x_whl, kWh_eq, x_brk, x_cnt, x_pass, kCl2_eq, kCl1_eq, kTr_eq, kB2_eq, kB1_eq, kU_eq, kTup_eq, kLst_eq, kS2_eq, kS1_eq, kC3_eq, kC2_eq, kC1_eq, kCall_eq, kK2_eq, kK1_eq, kBl_eq, kM2_eq, kM1_eq, kCo_eq, kRg_eq, kEn_eq, kZ2_eq, kZ1_eq, v_int, t_int, v_str, t_str, v_bl, t_bl, v_non, t_non, v_cst, t_cst, v_fnv, t_fnv, v_tyv, t_tyv, v_bin, t_bin, v_un, t_un, v_tup, t_tup, v_lst, t_lst, v_sub, t_sub, v_slc, t_slc, v_call, t_call, v_callk, t_callk, v_blt, t_blt, v_mth, t_mth, v_comp, t_comp, v_rng, t_rng, v_enm, t_enm, v_zip, t_zip, kVb_eq, kQ2_eq, kQ1_eq, kH4_eq, kH3_eq, kH2_eq, kH1_eq, v_cmp, t_cmp, v_chn, t_chn, v_var, t_var, kN2_eq, kN1_eq, kNt_eq, v_not, t_not, kAn_eq, kAt_eq, v_and, t_and, kOn_eq, kOt_eq, v_or, t_or, kIv_eq, kIt_eq, v_ife, t_ife, v_seq, v_no, kOs2_eq, kOs1_eq, os_nil, os_cons, kF2_eq, kF1_eq, f_nil, f_cons, kG2_eq, kG1_eq, kG3_eq, g_nil, g_val, g_slot, kGt_eq, g_tmpc, o_var, kIe_eq, it_ev, p_no, kRt_eq, r_var, kV_eq, kPt_eq, o_int, r_int, p_int, o_str, r_str, p_str, o_bl, r_bl, p_bl, o_non, r_non, p_non, o_cst, r_cst, p_cst, o_fnv, r_fnv, p_fnv, o_tyv, r_tyv, p_tyv, o_bin, r_bin, p_bin, o_un, r_un, p_un, o_tup, r_tup, p_tup, o_lst, r_lst, p_lst, o_sub, r_sub, p_sub, o_slc, r_slc, p_slc, o_call, r_call, p_call, o_callk, r_callk, p_callk, o_blt, r_blt, p_blt, o_mth, r_mth, p_mth, o_comp, r_comp, p_comp, o_rng, r_rng, p_rng, o_enm, r_enm, p_enm, o_zip, r_zip, p_zip, o_cmp, r_cmp, p_cmp, o_chn, r_chn, p_chn, o_not, r_not, p_not, o_and, r_and, p_and, o_or, r_or, p_or, o_ife, r_ife, p_ife, p_var, kT3_eq, kT2_eq, evVar, tsVar, liftO, liftB, flOf, fzO, okIf, cmp2, rsO, rsOs, unP, truth, lstAt, argV, argVs, slotsOf, argBack, setP, itO, itemsP, setPar, isNonP, kindO, seqOf, ownFz, wipeE, unwipe, consO, enmP, zipP, List.all_cons, List.all_nil, Bool.and_true, Bool.true_and, Bool.and_self, Option.bind_some, Option.map_some, List.getElem?_cons_zero, List.getElem?_cons_succ, List.set_cons_zero, List.set_cons_succ, Option.isSome_some, if_true, if_false, ite_true, ite_false, decide_true, decide_false, Bool.not_true, Bool.not_false, reduceIte, Bool.false_eq_true, p1, p2, q1, q2, mul_l _ _ s1, add_p, sub_p, eq_ii, gt_ii, ge_ii, h', hpos, h0, hm, blt_int, mod_p _ _ hpos, div_p _ _ hpos g2, beq_self_eq_true, sz0, sz1, sz2, sz3, sz4, sz5, sz6, sz7, sz8, sz9, sz10, sz11, sz12, sz13, sz14, sz15, sz16, sz17, sz18, sz19, sz20]
      · have hm' : ((a1 * k + b1 - b2) % a2 == 0) = false := by simpa using hm
        rw [if_neg fun z => hm z.2.2]
        simp only [bd_ok, bd_exc, bd_bad, fo_ok, fo_exc, th_nx, th_ret, th_exc, th_brk, th_cnt, tk_nx, tk_cnt, tk_brk, tk_ret, tk_exc, x_nil, x_seq, kAsg_eq, x_asg, kUnp_eq, x_unp, kPar_eq, x_par, kSet2_eq, kSet1_eq, x_seti, kApp_eq, x_app, kExpr_eq, x_expr, x_ret, x_retN, kIf_eq, x_ife, kLoop_eq, x_loop, x_whl, kWh_eq, x_brk, x_cnt, x_pass, kCl2_eq, kCl1_eq, kTr_eq, kB2_eq, kB1_eq, kU_eq, kTup_eq, kLst_eq, kS2_eq, kS1_eq, kC3_eq, kC2_eq, kC1_eq, kCall_eq, kK2_eq, kK1_eq, kBl_eq, kM2_eq, kM1_eq, kCo_eq, kRg_eq, kEn_eq, kZ2_eq, kZ1_eq, v_int, t_int, v_str, t_str, v_bl, t_bl, v_non, t_non, v_cst, t_cst, v_fnv, t_fnv, v_tyv, t_tyv, v_bin, t_bin, v_un, t_un, v_tup, t_tup, v_lst, t_lst, v_sub, t_sub, v_slc, t_slc, v_call, t_call, v_callk, t_callk, v_blt, t_blt, v_mth, t_mth, v_comp, t_comp, v_rng, t_rng, v_enm, t_enm, v_zip, t_zip, kVb_eq, kQ2_eq, kQ1_eq, kH4_eq, kH3_eq, kH2_eq, kH1_eq, v_cmp, t_cmp, v_chn, t_chn, v_var, t_var, kN2_eq, kN1_eq, kNt_eq, v_not, t_not, kAn_eq, kAt_eq, v_and, t_and, kOn_eq, kOt_eq, v_or, t_or, kIv_eq, kIt_eq, v_ife, t_ife, v_seq, v_no, kOs2_eq, kOs1_eq, os_nil, os_cons, kF2_eq, kF1_eq, f_nil, f_cons, kG2_eq, kG1_eq, kG3_eq, g_nil, g_val, g_slot, kGt_eq, g_tmpc, o_var, kIe_eq, it_ev, p_no, kRt_eq, r_var, kV_eq, kPt_eq, o_int, r_int, p_int, o_str, r_str, p_str, o_bl, r_bl, p_bl, o_non, r_non, p_non, o_cst, r_cst, p_cst, o_fnv, r_fnv, p_fnv, o_tyv, r_tyv, p_tyv, o_bin, r_bin, p_bin, o_un, r_un, p_un, o_tup, r_tup, p_tup, o_lst, r_lst, p_lst, o_sub, r_sub, p_sub, o_slc, r_slc, p_slc, o_call, r_call, p_call, o_callk, r_callk, p_callk, o_blt, r_blt, p_blt, o_mth, r_mth, p_mth, o_comp, r_comp, p_comp, o_rng, r_rng, p_rng, o_enm, r_enm, p_enm, o_zip, r_zip, p_zip, o_cmp, r_cmp, p_cmp, o_chn, r_chn, p_chn, o_not, r_not, p_not, o_and, r_and, p_and, o_or, r_or, p_or, o_ife, r_ife, p_ife, p_var, kT3_eq, kT2_eq, evVar, tsVar, liftO, liftB, flOf, fzO, okIf, cmp2, rsO, rsOs, unP, truth, lstAt, argV, argVs, slotsOf, argBack, setP, itO, itemsP, setPar, isNonP, kindO, seqOf, ownFz, wipeE, unwipe, consO, enmP, zipP, List.all_cons, List.all_nil, Bool.and_true, Bool.true_and, Bool.and_self, Option.bind_some, Option.map_some, List.getElem?_cons_zero, List.getElem?_cons_succ, List.set_cons_zero, List.set_cons_succ, Option.isSome_some, if_true, if_false, ite_true, ite_false, decide_true, decide_false, Bool.not_true, Bool.not_false, reduceIte, Bool.false_eq_true, p1, p2, q1, q2, mul_l _ _ s1, add_p, sub_p, eq_ii, gt_ii, ge_ii, h', hpos, h0, hm', blt_int, mod_p _ _ hpos, div_p _ _ hpos g2, beq_self_eq_true, sz0, sz1, sz2, sz3, sz4, sz5, sz6, sz7, sz8, sz9, sz10, sz11, sz12, sz13, sz14, sz15, sz16, sz17, sz18, sz19, sz20]
    · rw [if_neg fun z => h0 z.2.1]
      simp only [bd_ok, bd_exc, bd_bad, fo_ok, fo_exc, th_nx, th_ret, th_exc, th_brk, th_cnt, tk_nx, tk_cnt, tk_brk, tk_ret, tk_exc, x_nil, x_seq, kAsg_eq, x_asg, kUnp_eq, x_unp, kPar_eq, x_par, kSet2_eq, kSet1_eq, x_seti, kApp_eq, x_app, kExpr_eq, x_expr, x_ret, x_retN, kIf_eq, x_ife, kLoop_eq, x_loop, x_whl, kWh_eq, x_brk, x_cnt, x_pass, kCl2_eq, kCl1_eq, kTr_eq, kB2_eq, kB1_eq, kU_eq, kTup_eq, kLst_eq, kS2_eq, kS1_eq, kC3_eq, kC2_eq, kC1_eq, kCall_eq, kK2_eq, kK1_eq, kBl_eq, kM2_eq, kM1_eq, kCo_eq, kRg_eq, kEn_eq, kZ2_eq, kZ1_eq, v_int, t_int, v_str, t_str, v_bl, t_bl, v_non, t_non, v_cst, t_cst, v_fnv, t_fnv, v_tyv, t_tyv, v_bin, t_bin, v_un, t_un, v_tup, t_tup, v_lst, t_lst, v_sub, t_sub, v_slc, t_slc, v_call, t_call, v_callk, t_callk, v_blt, t_blt, v_mth, t_mth, v_comp, t_comp, v_rng, t_rng, v_enm, t_enm, v_zip, t_zip, kVb_eq, kQ2_eq, kQ1_eq, kH4_eq, kH3_eq, kH2_eq, kH1_eq, v_cmp, t_cmp, v_chn, t_chn, v_var, t_var, kN2_eq, kN1_eq, kNt_eq, v_not, t_not, kAn_eq, kAt_eq, v_and, t_and, kOn_eq, kOt_eq, v_or, t_or, kIv_eq, kIt_eq, v_ife, t_ife, v_seq, v_no, kOs2_eq, kOs1_eq, os_nil, os_cons, kF2_eq, kF1_eq, f_nil, f_cons, kG2_eq, kG1_eq, kG3_eq, g_nil, g_val, g_slot, kGt_eq, g_tmpc, o_var, kIe_eq, it_ev, p_no, kRt_eq, r_var, kV_eq, kPt_eq, o_int, r_int, p_int, o_str, r_str, p_str, o_bl, r_bl, p_bl, o_non, r_non, p_non, o_cst, r_cst, p_cst, o_fnv, r_fnv, p_fnv, o_tyv, r_tyv, p_tyv, o_bin, r_bin, p_bin, o_un, r_un, p_un, o_tup, r_tup, p_tup, o_lst, r_lst, p_lst, o_sub, r_sub, p_sub, o_slc, r_slc, p_slc, o_call, r_call, p_call, o_callk, r_callk, p_callk, o_blt, r_blt, p_blt, o_mth, r_mth, p_mth, o_comp, r_comp, p_comp, o_rng, r_rng, p_rng, o_enm, r_enm, p_enm, o_zip, r_zip, p_zip, o_cmp, r_cmp, p_cmp, o_chn, r_chn, p_chn, o_not, r_not, p_not, o_and, r_and, p_and, o_or, r_or, p_or, o_ife, r_ife, p_ife, p_var, kT3_eq, kT2_eq, evVar, tsVar, liftO, liftB, flOf, fzO, okIf, cmp2, rsO, rsOs, unP, truth, lstAt, argV, argVs, slotsOf, argBack, setP, itO, itemsP, setPar, isNonP, kindO, seqOf, ownFz, wipeE, unwipe, consO, enmP, zipP, List.all_cons, List.all_nil, Bool.and_true, Bool.true_and, Bool.and_self, Option.bind_some, Option.map_some, List.getElem?_cons_zero, List.getElem?_cons_succ, List.set_cons_zero, List.set_cons_succ, Option.isSome_some, if_true, if_false, ite_true, ite_false, decide_true, decide_false, Bool.not_true, Bool.not_false, reduceIte, Bool.false_eq_true, p1, p2, q1, q2, mul_l _ _ s1, add_p, sub_p, eq_ii, gt_ii, ge_ii, h', hpos, h0, blt_int, mod_p _ _ hpos, div_p _ _ hpos g2, beq_self_eq_true, sz0, sz1, sz2, sz3, sz4, sz5, sz6, sz7, sz8, sz9, sz10, sz11, sz12, sz13, sz14, sz15, sz16, sz17, sz18, sz19, sz20]
theorem fst_loop {C : Cal} {p q x : PV} {t u : Str} {a1 b1 a2 b2 : Int} (hp : Pl p t a1 b1) (hq : Pl q u a2 b2) (s1 : smallI a1 = true) (l2 : 0 ≤ a2) (g2 : a2 < 1073741824) : ∀ (ks : List Int) (w v : Option (PV × Fl)),
    ∃ w' v', forLoop (.nm 3) (exec C fstB) (ks.map PV.int) [some (p, .fz), some (q, .fz), some (x, .fz), w, v] = (match fstL a1 b1 a2 b2 ks with
      | some r => .ret (oP (some r), .fz) [some (p, .fz), some (q, .fz), some (x, .fz), w', v']
      | none => .nx [some (p, .fz), some (q, .fz), some (x, .fz), w', v'])
  | [], w, v => ⟨w, v, rfl⟩
  | k :: ks, w, v => by
    have e : forLoop (.nm 3) (exec C fstB) ((k :: ks).map PV.int) [some (p, .fz), some (q, .fz), some (x, .fz), w, v] = turnK (forLoop (.nm 3) (exec C fstB) (ks.map PV.int)) (exec C fstB [some (p, .fz), some (q, .fz), some (x, .fz), some (.int k, .fz), v]) := rfl
    rw [e, fst_turn hp hq s1 l2 g2]
    unfold fstL
    by_cases c1 : a2 = 0 ∧ a1 * k + b1 - b2 = 0
    · rw [if_pos c1, if_pos c1]
      exact ⟨_, _, rfl⟩
    · rw [if_neg c1, if_neg c1]
      by_cases c2 : 0 < a2 ∧ 0 ≤ a1 * k + b1 - b2 ∧ (a1 * k + b1 - b2) % a2 = 0
      · rw [if_pos c2, if_pos c2]
        exact ⟨_, _, rfl⟩
      · rw [if_neg c2, if_neg c2]
        exact fst_loop hp hq s1 l2 g2 ks _ _
def upTo (n : Nat) : List Int := (List.range n).map fun (k : Nat) => (k : Int)
theorem rng_up (n : Nat) : rngItems 0 (n : Int) = (upTo n).map PV.int := by
  unfold rngItems upTo
  rw [List.map_map]
  show List.map _ (List.range ((n : Int) - 0).toNat) = _
  rw [Int.sub_zero, Int.toNat_natCast]
  exact List.map_congr_left fun k _ => by show PV.int (0 + (k : Int)) = PV.int (k : Int); rw [Int.zero_add]
def firstV (t u : Str) (a1 b1 a2 b2 : Int) : Option (Int × Int) := if t = u then fstL a1 b1 a2 b2 (upTo 64) else none
theorem rngP_64 : rngP [.int 64] = some ((upTo 64).map PV.int) := by
  show some (rngItems 0 ((64 : Nat) : Int)) = _
  rw [rng_up]
theorem first_run {C : Cal} {p q : PV} {t u : Str} {a1 b1 a2 b2 : Int} (hp : Pl p t a1 b1) (hq : Pl q u a2 b2) (s1 : smallI a1 = true) (l2 : 0 ≤ a2) (g2 : a2 < 1073741824) :
    runF C (some d__law_first) [p, q, .int 64] = .ok (oP (firstV t u a1 b1 a2 b2), .fz) [] := by
  show finish [false, false, false] (exec C d__law_first.body [some (p, .fz), some (q, .fz), some (.int 64, .fz), none, none]) = _
  have p0 := hp.i0
  have q0 := hq.i0
  unfold firstV
  by_cases h : t = u
  · subst h
    rw [if_pos rfl]
    obtain ⟨w, v, e⟩ := fst_loop (C := C) (x := .int 64) hp hq s1 l2 g2 (upTo 64) none none
    have e' : exec C d__law_first.body [some (p, .fz), some (q, .fz), some (.int 64, .fz), none, none] = (match fstL a1 b1 a2 b2 (upTo 64) with
      | some r => .ret (oP (some r), .fz) [some (p, .fz), some (q, .fz), some (.int 64, .fz), w, v]
      | none => .ret (.non, .fz) [some (p, .fz), some (q, .fz), some (.int 64, .fz), w, v]) := by
      show exec C (.seq (.ife (.cmp .Eq (.sub (.var 0) (.int 0)) (.sub (.var 1) (.int 0))) (.seq (.loop (.nm 3) (.rng (.cons (.var 2) .nil)) fstB) .nil) .nil) (.seq (.ret .non) .nil)) _ = _
      simp only [bd_ok, bd_exc, bd_bad, fo_ok, fo_exc, th_nx, th_ret, th_exc, th_brk, th_cnt, tk_nx, tk_cnt, tk_brk, tk_ret, tk_exc, x_nil, x_seq, kAsg_eq, x_asg, kUnp_eq, x_unp, kPar_eq, x_par, kSet2_eq, kSet1_eq, x_seti, kApp_eq, x_app, kExpr_eq, x_expr, x_ret, x_retN, kIf_eq, x_ife, kLoop_eq, x_loop, x_whl, kWh_eq, x_brk, x_cnt, x_pass, kCl2_eq, kCl1_eq, kTr_eq, kB2_eq, kB1_eq, kU_eq, kTup_eq, kLst_eq, kS2_eq, kS1_eq, kC3_eq, kC2_eq, kC1_eq, kCall_eq, kK2_eq, kK1_eq, kBl_eq, kM2_eq, kM1_eq, kCo_eq, kRg_eq, kEn_eq, kZ2_eq, kZ1_eq, v_int, t_int, v_str, t_str, v_bl, t_bl, v_non, t_non, v_cst, t_cst, v_fnv, t_fnv, v_tyv, t_tyv, v_bin, t_bin, v_un, t_un, v_tup, t_tup, v_lst, t_lst, v_sub, t_sub, v_slc, t_slc, v_call, t_call, v_callk, t_callk, v_blt, t_blt, v_mth, t_mth, v_comp, t_comp, v_rng, t_rng, v_enm, t_enm, v_zip, t_zip, kVb_eq, kQ2_eq, kQ1_eq, kH4_eq, kH3_eq, kH2_eq, kH1_eq, v_cmp, t_cmp, v_chn, t_chn, v_var, t_var, kN2_eq, kN1_eq, kNt_eq, v_not, t_not, kAn_eq, kAt_eq, v_and, t_and, kOn_eq, kOt_eq, v_or, t_or, kIv_eq, kIt_eq, v_ife, t_ife, v_seq, v_no, kOs2_eq, kOs1_eq, os_nil, os_cons, kF2_eq, kF1_eq, f_nil, f_cons, kG2_eq, kG1_eq, kG3_eq, g_nil, g_val, g_slot, kGt_eq, g_tmpc, o_var, kIe_eq, it_ev, p_no, kRt_eq, r_var, kV_eq, kPt_eq, o_int, r_int, p_int, o_str, r_str, p_str, o_bl, r_bl, p_bl, o_non, r_non, p_non, o_cst, r_cst, p_cst, o_fnv, r_fnv, p_fnv, o_tyv, r_tyv, p_tyv, o_bin, r_bin, p_bin, o_un, r_un, p_un, o_tup, r_tup, p_tup, o_lst, r_lst, p_lst, o_sub, r_sub, p_sub, o_slc, r_slc, p_slc, o_call, r_call, p_call, o_callk, r_callk, p_callk, o_blt, r_blt, p_blt, o_mth, r_mth, p_mth, o_comp, r_comp, p_comp, o_rng, r_rng, p_rng, o_enm, r_enm, p_enm, o_zip, r_zip, p_zip, o_cmp, r_cmp, p_cmp, o_chn, r_chn, p_chn, o_not, r_not, p_not, o_and, r_and, p_and, o_or, r_or, p_or, o_ife, r_ife, p_ife, p_var, kT3_eq, kT2_eq, evVar, tsVar, liftO, liftB, flOf, fzO, okIf, cmp2, rsO, rsOs, unP, truth, lstAt, argV, argVs, slotsOf, argBack, setP, itO, itemsP, setPar, isNonP, kindO, seqOf, ownFz, wipeE, unwipe, consO, enmP, zipP, List.all_cons, List.all_nil, Bool.and_true, Bool.true_and, Bool.and_self, Option.bind_some, Option.map_some, List.getElem?_cons_zero, List.getElem?_cons_succ, List.set_cons_zero, List.set_cons_succ, Option.isSome_some, if_true, if_false, ite_true, ite_false, decide_true, decide_false, Bool.not_true, Bool.not_false, reduceIte, Bool.false_eq_true, p0, q0, eq_ss, beq_self_eq_true, rngP_64, e, sz0, sz1, sz2, sz3, sz4, sz5, sz6, sz7, sz8, sz9, sz10, sz11, sz12, sz13, sz14, sz15, sz16, sz17, sz18, sz19, sz20]
      cases fstL a1 b1 a2 b2 (upTo 64) with
      | none => rfl
      | some r => rfl
    rw [e']
    cases fstL a1 b1 a2 b2 (upTo 64) with
    | none => rfl
    | some r => rfl
  · rw [if_neg h]
    have h' : (t == u) = false := by simpa using h
    have e' : exec C d__law_first.body [some (p, .fz), some (q, .fz), some (.int 64, .fz), none, none] = .ret (.non, .fz) [some (p, .fz), some (q, .fz), some (.int 64, .fz), none, none] := by
      unfold d__law_first
      simp only [bd_ok, bd_exc, bd_bad, fo_ok, fo_exc, th_nx, th_ret, th_exc, th_brk, th_cnt, tk_nx, tk_cnt, tk_brk, tk_ret, tk_exc, x_nil, x_seq, kAsg_eq, x_asg, kUnp_eq, x_unp, kPar_eq, x_par, kSet2_eq, kSet1_eq, x_seti, kApp_eq, x_app, kExpr_eq, x_expr, x_ret, x_retN, kIf_eq, x_ife, kLoop_eq, x_loop, x_whl, kWh_eq, x_brk, x_cnt, x_pass, kCl2_eq, kCl1_eq, kTr_eq, kB2_eq, kB1_eq, kU_eq, kTup_eq, kLst_eq, kS2_eq, kS1_eq, kC3_eq, kC2_eq, kC1_eq, kCall_eq, kK2_eq, kK1_eq, kBl_eq, kM2_eq, kM1_eq, kCo_eq, kRg_eq, kEn_eq, kZ2_eq, kZ1_eq, v_int, t_int, v_str, t_str, v_bl, t_bl, v_non, t_non, v_cst, t_cst, v_fnv, t_fnv, v_tyv, t_tyv, v_bin, t_bin, v_un, t_un, v_tup, t_tup, v_lst, t_lst, v_sub, t_sub, v_slc, t_slc, v_call, t_call, v_callk, t_callk, v_blt, t_blt, v_mth, t_mth, v_comp, t_comp, v_rng, t_rng, v_enm, t_enm, v_zip, t_zip, kVb_eq, kQ2_eq, kQ1_eq, kH4_eq, kH3_eq, kH2_eq, kH1_eq, v_cmp, t_cmp, v_chn, t_chn, v_var, t_var, kN2_eq, kN1_eq, kNt_eq, v_not, t_not, kAn_eq, kAt_eq, v_and, t_and, kOn_eq, kOt_eq, v_or, t_or, kIv_eq, kIt_eq, v_ife, t_ife, v_seq, v_no, kOs2_eq, kOs1_eq, os_nil, os_cons, kF2_eq, kF1_eq, f_nil, f_cons, kG2_eq, kG1_eq, kG3_eq, g_nil, g_val, g_slot, kGt_eq, g_tmpc, o_var, kIe_eq, it_ev, p_no, kRt_eq, r_var, kV_eq, kPt_eq, o_int, r_int, p_int, o_str, r_str, p_str, o_bl, r_bl, p_bl, o_non, r_non, p_non, o_cst, r_cst, p_cst, o_fnv, r_fnv, p_fnv, o_tyv, r_tyv, p_tyv, o_bin, r_bin, p_bin, o_un, r_un, p_un, o_tup, r_tup, p_tup, o_lst, r_lst, p_lst, o_sub, r_sub, p_sub, o_slc, r_slc, p_slc, o_call, r_call, p_call, o_callk, r_callk, p_callk, o_blt, r_blt, p_blt, o_mth, r_mth, p_mth, o_comp, r_comp, p_comp, o_rng, r_rng, p_rng, o_enm, r_enm, p_enm, o_zip, r_zip, p_zip, o_cmp, r_cmp, p_cmp, o_chn, r_chn, p_chn, o_not, r_not, p_not, o_and, r_and, p_and, o_or, r_or, p_or, o_ife, r_ife, p_ife, p_var, kT3_eq, kT2_eq, evVar, tsVar, liftO, liftB, flOf, fzO, okIf, cmp2, rsO, rsOs, unP, truth, lstAt, argV, argVs, slotsOf, argBack, setP, itO, itemsP, setPar, isNonP, kindO, seqOf, ownFz, wipeE, unwipe, consO, enmP, zipP, List.all_cons, List.all_nil, Bool.and_true, Bool.true_and, Bool.and_self, Option.bind_some, Option.map_some, List.getElem?_cons_zero, List.getElem?_cons_succ, List.set_cons_zero, List.set_cons_succ, Option.isSome_some, if_true, if_false, ite_true, ite_false, decide_true, decide_false, Bool.not_true, Bool.not_false, reduceIte, Bool.false_eq_true, p0, q0, eq_ss, h', sz0, sz1, sz2, sz3, sz4, sz5, sz6, sz7, sz8, sz9, sz10, sz11, sz12, sz13, sz14, sz15, sz16, sz17, sz18, sz19, sz20]
    rw [e']; rfl
/-! ### the shift by going -/
def shiL (a1 b1 a2 b2 : Int) : List Int → Option Int
  | [] => none
  | k :: ks => if a1 * 60 + b1 = a2 * (60 - k) + b2 then some k else shiL a1 b1 a2 b2 ks
def shiB : IS := (.seq (.ife (.cmp .Eq (.bin .Add (.bin .Mult (.sub (.var 0) (.int 1)) (.int 60)) (.sub (.var 0) (.int 2))) (.bin .Add (.bin .Mult (.sub (.var 1) (.int 1)) (.bin .Sub (.int 60) (.var 2))) (.sub (.var 1) (.int 2))))
 (.seq (.ret (.var 2))
 .nil)
 .nil)
 .nil)
theorem shi_loop {C : Cal} {p q : PV} {t u : Str} {a1 b1 a2 b2 : Int} (hp : Pl p t a1 b1) (hq : Pl q u a2 b2) (s2 : smallI a2 = true) : ∀ (ks : List Int) (w : Option (PV × Fl)),
    ∃ w', forLoop (.nm 2) (exec C shiB) (ks.map PV.int) [some (p, .fz), some (q, .fz), w] = (match shiL a1 b1 a2 b2 ks with
      | some r => .ret (.int r, .fz) [some (p, .fz), some (q, .fz), w']
      | none => .nx [some (p, .fz), some (q, .fz), w'])
  | [], w => ⟨w, rfl⟩
  | k :: ks, w => by
    have e : forLoop (.nm 2) (exec C shiB) ((k :: ks).map PV.int) [some (p, .fz), some (q, .fz), w] = turnK (forLoop (.nm 2) (exec C shiB) (ks.map PV.int)) (exec C shiB [some (p, .fz), some (q, .fz), some (.int k, .fz)]) := rfl
    have p1 := hp.i1
    have p2 := hp.i2
    have q1 := hq.i1
    have q2 := hq.i2
    have s60 : smallI 60 = true := rfl
    rw [e]
    unfold shiL
    by_cases c : a1 * 60 + b1 = a2 * (60 - k) + b2
    · have c' : (a1 * 60 + b1 == a2 * (60 - k) + b2) = true := by simpa using c
      have ee : exec C shiB [some (p, .fz), some (q, .fz), some (.int k, .fz)] = .ret (.int k, .fz) [some (p, .fz), some (q, .fz), some (.int k, .fz)] := by
        unfold shiB
        simp only [bd_ok, bd_exc, bd_bad, fo_ok, fo_exc, th_nx, th_ret, th_exc, th_brk, th_cnt, tk_nx, tk_cnt, tk_brk, tk_ret, tk_exc, x_nil, x_seq, kAsg_eq, x_asg, kUnp_eq, x_unp, kPar_eq, x_par, kSet2_eq, kSet1_eq, x_seti, kApp_eq, x_app, kExpr_eq, x_expr, x_ret, x_retN, kIf_eq, x_ife, kLoop_eq, x_loop, x_whl, kWh_eq, x_brk, x_cnt, x_pass, kCl2_eq, kCl1_eq, kTr_eq, kB2_eq, kB1_eq, kU_eq, kTup_eq, kLst_eq, kS2_eq, kS1_eq, kC3_eq, kC2_eq, kC1_eq, kCall_eq, kK2_eq, kK1_eq, kBl_eq, kM2_eq, kM1_eq, kCo_eq, kRg_eq, kEn_eq, kZ2_eq, kZ1_eq, v_int, t_int, v_str, t_str, v_bl, t_bl, v_non, t_non, v_cst, t_cst, v_fnv, t_fnv, v_tyv, t_tyv, v_bin, t_bin, v_un, t_un, v_tup, t_tup, v_lst, t_lst, v_sub, t_sub, v_slc, t_slc, v_call, t_call, v_callk, t_callk, v_blt, t_blt, v_mth, t_mth, v_comp, t_comp, v_rng, t_rng, v_enm, t_enm, v_zip, t_zip, kVb_eq, kQ2_eq, kQ1_eq, kH4_eq, kH3_eq, kH2_eq, kH1_eq, v_cmp, t_cmp, v_chn, t_chn, v_var, t_var, kN2_eq, kN1_eq, kNt_eq, v_not, t_not, kAn_eq, kAt_eq, v_and, t_and, kOn_eq, kOt_eq, v_or, t_or, kIv_eq, kIt_eq, v_ife, t_ife, v_seq, v_no, kOs2_eq, kOs1_eq, os_nil, os_cons, kF2_eq, kF1_eq, f_nil, f_cons, kG2_eq, kG1_eq, kG3_eq, g_nil, g_val, g_slot, kGt_eq, g_tmpc, o_var, kIe_eq, it_ev, p_no, kRt_eq, r_var, kV_eq, kPt_eq, o_int, r_int, p_int, o_str, r_str, p_str, o_bl, r_bl, p_bl, o_non, r_non, p_non, o_cst, r_cst, p_cst, o_fnv, r_fnv, p_fnv, o_tyv, r_tyv, p_tyv, o_bin, r_bin, p_bin, o_un, r_un, p_un, o_tup, r_tup, p_tup, o_lst, r_lst, p_lst, o_sub, r_sub, p_sub, o_slc, r_slc, p_slc, o_call, r_call, p_call, o_callk, r_callk, p_callk, o_blt, r_blt, p_blt, o_mth, r_mth, p_mth, o_comp, r_comp, p_comp, o_rng, r_rng, p_rng, o_enm, r_enm, p_enm, o_zip, r_zip, p_zip, o_cmp, r_cmp, p_cmp, o_chn, r_chn, p_chn, o_not, r_not, p_not, o_and, r_and, p_and, o_or, r_or, p_or, o_ife, r_ife, p_ife, p_var, kT3_eq, kT2_eq, evVar, tsVar, liftO, liftB, flOf, fzO, okIf, cmp2, rsO, rsOs, unP, truth, lstAt, argV, argVs, slotsOf, argBack, setP, itO, itemsP, setPar, isNonP, kindO, seqOf, ownFz, wipeE, unwipe, consO, enmP, zipP, List.all_cons, List.all_nil, Bool.and_true, Bool.true_and, Bool.and_self, Option.bind_some, Option.map_some, List.getElem?_cons_zero, List.getElem?_cons_succ, List.set_cons_zero, List.set_cons_succ, Option.isSome_some, if_true, if_false, ite_true, ite_false, decide_true, decide_false, Bool.not_true, Bool.not_false, reduceIte, Bool.false_eq_true, p1, p2, q1, q2, mul_r _ 60 s60, mul_l _ _ s2, add_p, sub_p, eq_ii, c', sz0, sz1, sz2, sz3, sz4, sz5, sz6, sz7, sz8, sz9, sz10, sz11, sz12, sz13, sz14, sz15, sz16, sz17, sz18, sz19, sz20]
      rw [ee, if_pos c]
      exact ⟨_, rfl⟩
    · have c' : (a1 * 60 + b1 == a2 * (60 - k) + b2) = false := by simpa using c
      have ee : exec C shiB [some (p, .fz), some (q, .fz), some (.int k, .fz)] = .nx [some (p, .fz), some (q, .fz), some (.int k, .fz)] := by
        unfold shiB
        simp only [bd_ok, bd_exc, bd_bad, fo_ok, fo_exc, th_nx, th_ret, th_exc, th_brk, th_cnt, tk_nx, tk_cnt, tk_brk, tk_ret, tk_exc, x_nil, x_seq, kAsg_eq, x_asg, kUnp_eq, x_unp, kPar_eq, x_par, kSet2_eq, kSet1_eq, x_seti, kApp_eq, x_app, kExpr_eq, x_expr, x_ret, x_retN, kIf_eq, x_ife, kLoop_eq, x_loop, x_whl, kWh_eq, x_brk, x_cnt, x_pass, kCl2_eq, kCl1_eq, kTr_eq, kB2_eq, kB1_eq, kU_eq, kTup_eq, kLst_eq, kS2_eq, kS1_eq, kC3_eq, kC2_eq, kC1_eq, kCall_eq, kK2_eq, kK1_eq, kBl_eq, kM2_eq, kM1_eq, kCo_eq, kRg_eq, kEn_eq, kZ2_eq, kZ1_eq, v_int, t_int, v_str, t_str, v_bl, t_bl, v_non, t_non, v_cst, t_cst, v_fnv, t_fnv, v_tyv, t_tyv, v_bin, t_bin, v_un, t_un, v_tup, t_tup, v_lst, t_lst, v_sub, t_sub, v_slc, t_slc, v_call, t_call, v_callk, t_callk, v_blt, t_blt, v_mth, t_mth, v_comp, t_comp, v_rng, t_rng, v_enm, t_enm, v_zip, t_zip, kVb_eq, kQ2_eq, kQ1_eq, kH4_eq, kH3_eq, kH2_eq, kH1_eq, v_cmp, t_cmp, v_chn, t_chn, v_var, t_var, kN2_eq, kN1_eq, kNt_eq, v_not, t_not, kAn_eq, kAt_eq, v_and, t_and, kOn_eq, kOt_eq, v_or, t_or, kIv_eq, kIt_eq, v_ife, t_ife, v_seq, v_no, kOs2_eq, kOs1_eq, os_nil, os_cons, kF2_eq, kF1_eq, f_nil, f_cons, kG2_eq, kG1_eq, kG3_eq, g_nil, g_val, g_slot, kGt_eq, g_tmpc, o_var, kIe_eq, it_ev, p_no, kRt_eq, r_var, kV_eq, kPt_eq, o_int, r_int, p_int, o_str, r_str, p_str, o_bl, r_bl, p_bl, o_non, r_non, p_non, o_cst, r_cst, p_cst, o_fnv, r_fnv, p_fnv, o_tyv, r_tyv, p_tyv, o_bin, r_bin, p_bin, o_un, r_un, p_un, o_tup, r_tup, p_tup, o_lst, r_lst, p_lst, o_sub, r_sub, p_sub, o_slc, r_slc, p_slc, o_call, r_call, p_call, o_callk, r_callk, p_callk, o_blt, r_blt, p_blt, o_mth, r_mth, p_mth, o_comp, r_comp, p_comp, o_rng, r_rng, p_rng, o_enm, r_enm, p_enm, o_zip, r_zip, p_zip, o_cmp, r_cmp, p_cmp, o_chn, r_chn, p_chn, o_not, r_not, p_not, o_and, r_and, p_and, o_or, r_or, p_or, o_ife, r_ife, p_ife, p_var, kT3_eq, kT2_eq, evVar, tsVar, liftO, liftB, flOf, fzO, okIf, cmp2, rsO, rsOs, unP, truth, lstAt, argV, argVs, slotsOf, argBack, setP, itO, itemsP, setPar, isNonP, kindO, seqOf, ownFz, wipeE, unwipe, consO, enmP, zipP, List.all_cons, List.all_nil, Bool.and_true, Bool.true_and, Bool.and_self, Option.bind_some, Option.map_some, List.getElem?_cons_zero, List.getElem?_cons_succ, List.set_cons_zero, List.set_cons_succ, Option.isSome_some, if_true, if_false, ite_true, ite_false, decide_true, decide_false, Bool.not_true, Bool.not_false, reduceIte, Bool.false_eq_true, p1, p2, q1, q2, mul_r _ 60 s60, mul_l _ _ s2, add_p, sub_p, eq_ii, c', sz0, sz1, sz2, sz3, sz4, sz5, sz6, sz7, sz8, sz9, sz10, sz11, sz12, sz13, sz14, sz15, sz16, sz17, sz18, sz19, sz20]
      rw [ee, if_neg c]
      exact shi_loop hp hq s2 ks _
def shKs : List Int := (List.range 81).map fun (k : Nat) => -40 + (k : Int)
theorem rngP_sh : rngP [.int (-40), .int 41] = some (shKs.map PV.int) := by
  unfold shKs
  rw [List.map_map]; rfl
def shiftV (t u : Str) (a1 b1 a2 b2 : Int) : Option Int := if t = u ∧ a1 = a2 ∧ a1 ≠ 0 then shiL a1 b1 a2 b2 shKs else none
theorem shift_run {C : Cal} {p q : PV} {t u : Str} {a1 b1 a2 b2 : Int} (hp : Pl p t a1 b1) (hq : Pl q u a2 b2) (s2 : smallI a2 = true) :
    runF C (some d__law_shift) [p, q] = .ok (oI (shiftV t u a1 b1 a2 b2), .fz) [] := by
  show finish [false, false] (exec C d__law_shift.body [some (p, .fz), some (q, .fz), none]) = _
  have p0 := hp.i0
  have q0 := hq.i0
  have p1 := hp.i1
  have q1 := hq.i1
  unfold shiftV
  by_cases h : t = u ∧ a1 = a2 ∧ a1 ≠ 0
  · obtain ⟨h1, h2, h3⟩ := h
    rw [if_pos ⟨h1, h2, h3⟩]
    subst h1 h2
    obtain ⟨w, e⟩ := shi_loop (C := C) hp hq s2 shKs none
    have z : (a1 == 0) = false := by simpa using h3
    have e' : exec C d__law_shift.body [some (p, .fz), some (q, .fz), none] = (match shiL a1 b1 a1 b2 shKs with
      | some r => .ret (.int r, .fz) [some (p, .fz), some (q, .fz), w]
      | none => .ret (.non, .fz) [some (p, .fz), some (q, .fz), w]) := by
      show exec C (.seq (.ife (.or (.cmp .NotEq (.sub (.var 0) (.int 0)) (.sub (.var 1) (.int 0))) (.or (.cmp .NotEq (.sub (.var 0) (.int 1)) (.sub (.var 1) (.int 1))) (.cmp .Eq (.sub (.var 0) (.int 1)) (.int 0)))) (.seq (.ret .non) .nil) .nil)
        (.seq (.loop (.nm 2) (.rng (.cons (.un .USub (.int 40)) (.cons (.int 41) .nil))) shiB) (.seq (.ret .non) .nil))) _ = _
      simp only [bd_ok, bd_exc, bd_bad, fo_ok, fo_exc, th_nx, th_ret, th_exc, th_brk, th_cnt, tk_nx, tk_cnt, tk_brk, tk_ret, tk_exc, x_nil, x_seq, kAsg_eq, x_asg, kUnp_eq, x_unp, kPar_eq, x_par, kSet2_eq, kSet1_eq, x_seti, kApp_eq, x_app, kExpr_eq, x_expr, x_ret, x_retN, kIf_eq, x_ife, kLoop_eq, x_loop, x_whl, kWh_eq, x_brk, x_cnt, x_pass, kCl2_eq, kCl1_eq, kTr_eq, kB2_eq, kB1_eq, kU_eq, kTup_eq, kLst_eq, kS2_eq, kS1_eq, kC3_eq, kC2_eq, kC1_eq, kCall_eq, kK2_eq, kK1_eq, kBl_eq, kM2_eq, kM1_eq, kCo_eq, kRg_eq, kEn_eq, kZ2_eq, kZ1_eq, v_int, t_int, v_str, t_str, v_bl, t_bl, v_non, t_non, v_cst, t_cst, v_fnv, t_fnv, v_tyv, t_tyv, v_bin, t_bin, v_un, t_un, v_tup, t_tup, v_lst, t_lst, v_sub, t_sub, v_slc, t_slc, v_call, t_call, v_callk, t_callk, v_blt, t_blt, v_mth, t_mth, v_comp, t_comp, v_rng, t_rng, v_enm, t_enm, v_zip, t_zip, kVb_eq, kQ2_eq, kQ1_eq, kH4_eq, kH3_eq, kH2_eq, kH1_eq, v_cmp, t_cmp, v_chn, t_chn, v_var, t_var, kN2_eq, kN1_eq, kNt_eq, v_not, t_not, kAn_eq, kAt_eq, v_and, t_and, kOn_eq, kOt_eq, v_or, t_or, kIv_eq, kIt_eq, v_ife, t_ife, v_seq, v_no, kOs2_eq, kOs1_eq, os_nil, os_cons, kF2_eq, kF1_eq, f_nil, f_cons, kG2_eq, kG1_eq, kG3_eq, g_nil, g_val, g_slot, kGt_eq, g_tmpc, o_var, kIe_eq, it_ev, p_no, kRt_eq, r_var, kV_eq, kPt_eq, o_int, r_int, p_int, o_str, r_str, p_str, o_bl, r_bl, p_bl, o_non, r_non, p_non, o_cst, r_cst, p_cst, o_fnv, r_fnv, p_fnv, o_tyv, r_tyv, p_tyv, o_bin, r_bin, p_bin, o_un, r_un, p_un, o_tup, r_tup, p_tup, o_lst, r_lst, p_lst, o_sub, r_sub, p_sub, o_slc, r_slc, p_slc, o_call, r_call, p_call, o_callk, r_callk, p_callk, o_blt, r_blt, p_blt, o_mth, r_mth, p_mth, o_comp, r_comp, p_comp, o_rng, r_rng, p_rng, o_enm, r_enm, p_enm, o_zip, r_zip, p_zip, o_cmp, r_cmp, p_cmp, o_chn, r_chn, p_chn, o_not, r_not, p_not, o_and, r_and, p_and, o_or, r_or, p_or, o_ife, r_ife, p_ife, p_var, kT3_eq, kT2_eq, evVar, tsVar, liftO, liftB, flOf, fzO, okIf, cmp2, rsO, rsOs, unP, truth, lstAt, argV, argVs, slotsOf, argBack, setP, itO, itemsP, setPar, isNonP, kindO, seqOf, ownFz, wipeE, unwipe, consO, enmP, zipP, List.all_cons, List.all_nil, Bool.and_true, Bool.true_and, Bool.and_self, Option.bind_some, Option.map_some, List.getElem?_cons_zero, List.getElem?_cons_succ, List.set_cons_zero, List.set_cons_succ, Option.isSome_some, if_true, if_false, ite_true, ite_false, decide_true, decide_false, Bool.not_true, Bool.not_false, reduceIte, Bool.false_eq_true, p0, q0, p1, q1, ne_ss, ne_ii, eq_ii, beq_self_eq_true, z, rngP_sh, e, sz0, sz1, sz2, sz3, sz4, sz5, sz6, sz7, sz8, sz9, sz10, sz11, sz12, sz13, sz14, sz15, sz16, sz17, sz18, sz19, sz20]
      cases shiL a1 b1 a1 b2 shKs with
      | none => rfl
      | some r => rfl
    rw [e']
    cases shiL a1 b1 a1 b2 shKs with
    | none => rfl
    | some r => rfl
  · rw [if_neg h]
    have e' : exec C d__law_shift.body [some (p, .fz), some (q, .fz), none] = .ret (.non, .fz) [some (p, .fz), some (q, .fz), none] := by
      unfold d__law_shift
      by_cases h1 : t = u
      · subst h1
        by_cases h2 : a1 = a2
        · subst h2
          have h3 : a1 = 0 := Classical.byContradiction fun z => h ⟨rfl, rfl, z⟩
          subst h3
          simp only [bd_ok, bd_exc, bd_bad, fo_ok, fo_exc, th_nx, th_ret, th_exc, th_brk, th_cnt, tk_nx, tk_cnt, tk_brk, tk_ret, tk_exc, x_nil, x_seq, kAsg_eq, x_asg, kUnp_eq, x_unp, kPar_eq, x_par, kSet2_eq, kSet1_eq, x_seti, kApp_eq, x_app, kExpr_eq, x_expr, x_ret, x_retN, kIf_eq, x_ife, kLoop_eq, x_loop, x_whl, kWh_eq, x_brk, x_cnt, x_pass, kCl2_eq, kCl1_eq, kTr_eq, kB2_eq, kB1_eq, kU_eq, kTup_eq, kLst_eq, kS2_eq, kS1_eq, kC3_eq, kC2_eq, kC1_eq, kCall_eq, kK2_eq, kK1_eq, kBl_eq, kM2_eq, kM1_eq, kCo_eq, kRg_eq, kEn_eq, kZ2_eq, kZ1_eq, v_int, t_int, v_str, t_str, v_bl, t_bl, v_non, t_non, v_cst, t_cst, v_fnv, t_fnv, v_tyv, t_tyv, v_bin, t_bin, v_un, t_un, v_tup, t_tup, v_lst, t_lst, v_sub, t_sub, v_slc, t_slc, v_call, t_call, v_callk, t_callk, v_blt, t_blt, v_mth, t_mth, v_comp, t_comp, v_rng, t_rng, v_enm, t_enm, v_zip, t_zip, kVb_eq, kQ2_eq, kQ1_eq, kH4_eq, kH3_eq, kH2_eq, kH1_eq, v_cmp, t_cmp, v_chn, t_chn, v_var, t_var, kN2_eq, kN1_eq, kNt_eq, v_not, t_not, kAn_eq, kAt_eq, v_and, t_and, kOn_eq, kOt_eq, v_or, t_or, kIv_eq, kIt_eq, v_ife, t_ife, v_seq, v_no, kOs2_eq, kOs1_eq, os_nil, os_cons, kF2_eq, kF1_eq, f_nil, f_cons, kG2_eq, kG1_eq, kG3_eq, g_nil, g_val, g_slot, kGt_eq, g_tmpc, o_var, kIe_eq, it_ev, p_no, kRt_eq, r_var, kV_eq, kPt_eq, o_int, r_int, p_int, o_str, r_str, p_str, o_bl, r_bl, p_bl, o_non, r_non, p_non, o_cst, r_cst, p_cst, o_fnv, r_fnv, p_fnv, o_tyv, r_tyv, p_tyv, o_bin, r_bin, p_bin, o_un, r_un, p_un, o_tup, r_tup, p_tup, o_lst, r_lst, p_lst, o_sub, r_sub, p_sub, o_slc, r_slc, p_slc, o_call, r_call, p_call, o_callk, r_callk, p_callk, o_blt, r_blt, p_blt, o_mth, r_mth, p_mth, o_comp, r_comp, p_comp, o_rng, r_rng, p_rng, o_enm, r_enm, p_enm, o_zip, r_zip, p_zip, o_cmp, r_cmp, p_cmp, o_chn, r_chn, p_chn, o_not, r_not, p_not, o_and, r_and, p_and, o_or, r_or, p_or, o_ife, r_ife, p_ife, p_var, kT3_eq, kT2_eq, evVar, tsVar, liftO, liftB, flOf, fzO, okIf, cmp2, rsO, rsOs, unP, truth, lstAt, argV, argVs, slotsOf, argBack, setP, itO, itemsP, setPar, isNonP, kindO, seqOf, ownFz, wipeE, unwipe, consO, enmP, zipP, List.all_cons, List.all_nil, Bool.and_true, Bool.true_and, Bool.and_self, Option.bind_some, Option.map_some, List.getElem?_cons_zero, List.getElem?_cons_succ, List.set_cons_zero, List.set_cons_succ, Option.isSome_some, if_true, if_false, ite_true, ite_false, decide_true, decide_false, Bool.not_true, Bool.not_false, reduceIte, Bool.false_eq_true, p0, q0, p1, q1, ne_ss, ne_ii, eq_ii, beq_self_eq_true, sz0, sz1, sz2, sz3, sz4, sz5, sz6, sz7, sz8, sz9, sz10, sz11, sz12, sz13, sz14, sz15, sz16, sz17, sz18, sz19, sz20]
        · have h2' : (a1 == a2) = false := by simpa using h2
          simp only [bd_ok, bd_exc, bd_bad, fo_ok, fo_exc, th_nx, th_ret, th_exc, th_brk, th_cnt, tk_nx, tk_cnt, tk_brk, tk_ret, tk_exc, x_nil, x_seq, kAsg_eq, x_asg, kUnp_eq, x_unp, kPar_eq, x_par, kSet2_eq, kSet1_eq, x_seti, kApp_eq, x_app, kExpr_eq, x_expr, x_ret, x_retN, kIf_eq, x_ife, kLoop_eq, x_loop, x_whl, kWh_eq, x_brk, x_cnt, x_pass, kCl2_eq, kCl1_eq, kTr_eq, kB2_eq, kB1_eq, kU_eq, kTup_eq, kLst_eq, kS2_eq, kS1_eq, kC3_eq, kC2_eq, kC1_eq, kCall_eq, kK2_eq, kK1_eq, kBl_eq, kM2_eq, kM1_eq, kCo_eq, kRg_eq, kEn_eq, kZ2_eq, kZ1_eq, v_int, t_int, v_str, t_str, v_bl, t_bl, v_non, t_non, v_cst, t_cst, v_fnv, t_fnv, v_tyv, t_tyv, v_bin, t_bin, v_un, t_un, v_tup, t_tup, v_lst, t_lst, v_sub, t_sub, v_slc, t_slc, v_call, t_call, v_callk, t_callk, v_blt, t_blt, v_mth, t_mth, v_comp, t_comp, v_rng, t_rng, v_enm, t_enm, v_zip, t_zip, kVb_eq, kQ2_eq, kQ1_eq, kH4_eq, kH3_eq, kH2_eq, kH1_eq, v_cmp, t_cmp, v_chn, t_chn, v_var, t_var, kN2_eq, kN1_eq, kNt_eq, v_not, t_not, kAn_eq, kAt_eq, v_and, t_and, kOn_eq, kOt_eq, v_or, t_or, kIv_eq, kIt_eq, v_ife, t_ife, v_seq, v_no, kOs2_eq, kOs1_eq, os_nil, os_cons, kF2_eq, kF1_eq, f_nil, f_cons, kG2_eq, kG1_eq, kG3_eq, g_nil, g_val, g_slot, kGt_eq, g_tmpc, o_var, kIe_eq, it_ev, p_no, kRt_eq, r_var, kV_eq, kPt_eq, o_int, r_int, p_int, o_str, r_str, p_str, o_bl, r_bl, p_bl, o_non, r_non, p_non, o_cst, r_cst, p_cst, o_fnv, r_fnv, p_fnv, o_tyv, r_tyv, p_tyv, o_bin, r_bin, p_bin, o_un, r_un, p_un, o_tup, r_tup, p_tup, o_lst, r_lst, p_lst, o_sub, r_sub, p_sub, o_slc, r_slc, p_slc, o_call, r_call, p_call, o_callk, r_callk, p_callk, o_blt, r_blt, p_blt, o_mth, r_mth, p_mth, o_comp, r_comp, p_comp, o_rng, r_rng, p_rng, o_enm, r_enm, p_enm, o_zip, r_zip, p_zip, o_cmp, r_cmp, p_cmp, o_chn, r_chn, p_chn, o_not, r_not, p_not, o_and, r_and, p_and, o_or, r_or, p_or, o_ife, r_ife, p_ife, p_var, kT3_eq, kT2_eq, evVar, tsVar, liftO, liftB, flOf, fzO, okIf, cmp2, rsO, rsOs, unP, truth, lstAt, argV, argVs, slotsOf, argBack, setP, itO, itemsP, setPar, isNonP, kindO, seqOf, ownFz, wipeE, unwipe, consO, enmP, zipP, List.all_cons, List.all_nil, Bool.and_true, Bool.true_and, Bool.and_self, Option.bind_some, Option.map_some, List.getElem?_cons_zero, List.getElem?_cons_succ, List.set_cons_zero, List.set_cons_succ, Option.isSome_some, if_true, if_false, ite_true, ite_false, decide_true, decide_false, Bool.not_true, Bool.not_false, reduceIte, Bool.false_eq_true, p0, q0, p1, q1, ne_ss, ne_ii, eq_ii, beq_self_eq_true, h2', sz0, sz1, sz2, sz3, sz4, sz5, sz6, sz7, sz8, sz9, sz10, sz11, sz12, sz13, sz14, sz15, sz16, sz17, sz18, sz19, sz20]
      · have h1' : (t == u) = false := by simpa using h1
        simp only [bd_ok, bd_exc, bd_bad, fo_ok, fo_exc, th_nx, th_ret, th_exc, th_brk, th_cnt, tk_nx, tk_cnt, tk_brk, tk_ret, tk_exc, x_nil, x_seq, kAsg_eq, x_asg, kUnp_eq, x_unp, kPar_eq, x_par, kSet2_eq, kSet1_eq, x_seti, kApp_eq, x_app, kExpr_eq, x_expr, x_ret, x_retN, kIf_eq, x_ife, kLoop_eq, x_loop, x_whl, kWh_eq, x_brk, x_cnt, x_pass, kCl2_eq, kCl1_eq, kTr_eq, kB2_eq, kB1_eq, kU_eq, kTup_eq, kLst_eq, kS2_eq, kS1_eq, kC3_eq, kC2_eq, kC1_eq, kCall_eq, kK2_eq, kK1_eq, kBl_eq, kM2_eq, kM1_eq, kCo_eq, kRg_eq, kEn_eq, kZ2_eq, kZ1_eq, v_int, t_int, v_str, t_str, v_bl, t_bl, v_non, t_non, v_cst, t_cst, v_fnv, t_fnv, v_tyv, t_tyv, v_bin, t_bin, v_un, t_un, v_tup, t_tup, v_lst, t_lst, v_sub, t_sub, v_slc, t_slc, v_call, t_call, v_callk, t_callk, v_blt, t_blt, v_mth, t_mth, v_comp, t_comp, v_rng, t_rng, v_enm, t_enm, v_zip, t_zip, kVb_eq, kQ2_eq, kQ1_eq, kH4_eq, kH3_eq, kH2_eq, kH1_eq, v_cmp, t_cmp, v_chn, t_chn, v_var, t_var, kN2_eq, kN1_eq, kNt_eq, v_not, t_not, kAn_eq, kAt_eq, v_and, t_and, kOn_eq, kOt_eq, v_or, t_or, kIv_eq, kIt_eq, v_ife, t_ife, v_seq, v_no, kOs2_eq, kOs1_eq, os_nil, os_cons, kF2_eq, kF1_eq, f_nil, f_cons, kG2_eq, kG1_eq, kG3_eq, g_nil, g_val, g_slot, kGt_eq, g_tmpc, o_var, kIe_eq, it_ev, p_no, kRt_eq, r_var, kV_eq, kPt_eq, o_int, r_int, p_int, o_str, r_str, p_str, o_bl, r_bl, p_bl, o_non, r_non, p_non, o_cst, r_cst, p_cst, o_fnv, r_fnv, p_fnv, o_tyv, r_tyv, p_tyv, o_bin, r_bin, p_bin, o_un, r_un, p_un, o_tup, r_tup, p_tup, o_lst, r_lst, p_lst, o_sub, r_sub, p_sub, o_slc, r_slc, p_slc, o_call, r_call, p_call, o_callk, r_callk, p_callk, o_blt, r_blt, p_blt, o_mth, r_mth, p_mth, o_comp, r_comp, p_comp, o_rng, r_rng, p_rng, o_enm, r_enm, p_enm, o_zip, r_zip, p_zip, o_cmp, r_cmp, p_cmp, o_chn, r_chn, p_chn, o_not, r_not, p_not, o_and, r_and, p_and, o_or, r_or, p_or, o_ife, r_ife, p_ife, p_var, kT3_eq, kT2_eq, evVar, tsVar, liftO, liftB, flOf, fzO, okIf, cmp2, rsO, rsOs, unP, truth, lstAt, argV, argVs, slotsOf, argBack, setP, itO, itemsP, setPar, isNonP, kindO, seqOf, ownFz, wipeE, unwipe, consO, enmP, zipP, List.all_cons, List.all_nil, Bool.and_true, Bool.true_and, Bool.and_self, Option.bind_some, Option.map_some, List.getElem?_cons_zero, List.getElem?_cons_succ, List.set_cons_zero, List.set_cons_succ, Option.isSome_some, if_true, if_false, ite_true, ite_false, decide_true, decide_false, Bool.not_true, Bool.not_false, reduceIte, Bool.false_eq_true, p0, q0, p1, q1, ne_ss, ne_ii, eq_ii, beq_self_eq_true, h1', sz0, sz1, sz2, sz3, sz4, sz5, sz6, sz7, sz8, sz9, sz10, sz11, sz12, sz13, sz14, sz15, sz16, sz17, sz18, sz19, sz20]
    rw [e']; rfl
/-! ### turns_back -/
def backV (t u : Str) (a1 b1 a2 b2 : Int) : Option Int := if t = u ∧ a1 = a2 ∧ a1 ≠ 0 ∧ (b2 - b1) % a1 = 0 then some ((b2 - b1) / a1) else none
theorem back_run {C : Cal} {p q : PV} {t u : Str} {a1 b1 a2 b2 : Int} (hp : Pl p t a1 b1) (hq : Pl q u a2 b2) (l1 : 0 ≤ a1) (g1 : a1 < 1073741824) :
    runF C (some d_turns_back) [p, q] = .ok (oI (backV t u a1 b1 a2 b2), .fz) [] := by
  show finish [false, false] (exec C d_turns_back.body [some (p, .fz), some (q, .fz)]) = _
  have p0 := hp.i0
  have q0 := hq.i0
  have p1 := hp.i1
  have q1 := hq.i1
  have p2 := hp.i2
  have q2 := hq.i2
  unfold backV d_turns_back
  by_cases h1 : t = u
  · subst h1
    by_cases h2 : a1 = a2
    · subst h2
      by_cases h3 : a1 = 0
      · subst h3
        rw [if_neg fun z => z.2.2.1 rfl]
        simp only [bd_ok, bd_exc, bd_bad, fo_ok, fo_exc, th_nx, th_ret, th_exc, th_brk, th_cnt, tk_nx, tk_cnt, tk_brk, tk_ret, tk_exc, x_nil, x_seq, kAsg_eq, x_asg, kUnp_eq, x_unp, kPar_eq, x_par, kSet2_eq, kSet1_eq, x_seti, kApp_eq, x_app, kExpr_eq, x_expr, x_ret, x_retN, kIf_eq, x_ife, kLoop_eq, x_loop, x_whl, kWh_eq, x_brk, x_cnt, x_pass, kCl2_eq, kCl1_eq, kTr_eq, kB2_eq, kB1_eq, kU_eq, kTup_eq, kLst_eq, kS2_eq, kS1_eq, kC3_eq, kC2_eq, kC1_eq, kCall_eq, kK2_eq, kK1_eq, kBl_eq, kM2_eq, kM1_eq, kCo_eq, kRg_eq, kEn_eq, kZ2_eq, kZ1_eq, v_int, t_int, v_str, t_str, v_bl, t_bl, v_non, t_non, v_cst, t_cst, v_fnv, t_fnv, v_tyv, t_tyv, v_bin, t_bin, v_un, t_un, v_tup, t_tup, v_lst, t_lst, v_sub, t_sub, v_slc, t_slc, v_call, t_call, v_callk, t_callk, v_blt, t_blt, v_mth, t_mth, v_comp, t_comp, v_rng, t_rng, v_enm, t_enm, v_zip, t_zip, kVb_eq, kQ2_eq, kQ1_eq, kH4_eq, kH3_eq, kH2_eq, kH1_eq, v_cmp, t_cmp, v_chn, t_chn, v_var, t_var, kN2_eq, kN1_eq, kNt_eq, v_not, t_not, kAn_eq, kAt_eq, v_and, t_and, kOn_eq, kOt_eq, v_or, t_or, kIv_eq, kIt_eq, v_ife, t_ife, v_seq, v_no, kOs2_eq, kOs1_eq, os_nil, os_cons, kF2_eq, kF1_eq, f_nil, f_cons, kG2_eq, kG1_eq, kG3_eq, g_nil, g_val, g_slot, kGt_eq, g_tmpc, o_var, kIe_eq, it_ev, p_no, kRt_eq, r_var, kV_eq, kPt_eq, o_int, r_int, p_int, o_str, r_str, p_str, o_bl, r_bl, p_bl, o_non, r_non, p_non, o_cst, r_cst, p_cst, o_fnv, r_fnv, p_fnv, o_tyv, r_tyv, p_tyv, o_bin, r_bin, p_bin, o_un, r_un, p_un, o_tup, r_tup, p_tup, o_lst, r_lst, p_lst, o_sub, r_sub, p_sub, o_slc, r_slc, p_slc, o_call, r_call, p_call, o_callk, r_callk, p_callk, o_blt, r_blt, p_blt, o_mth, r_mth, p_mth, o_comp, r_comp, p_comp, o_rng, r_rng, p_rng, o_enm, r_enm, p_enm, o_zip, r_zip, p_zip, o_cmp, r_cmp, p_cmp, o_chn, r_chn, p_chn, o_not, r_not, p_not, o_and, r_and, p_and, o_or, r_or, p_or, o_ife, r_ife, p_ife, p_var, kT3_eq, kT2_eq, evVar, tsVar, liftO, liftB, flOf, fzO, okIf, cmp2, rsO, rsOs, unP, truth, lstAt, argV, argVs, slotsOf, argBack, setP, itO, itemsP, setPar, isNonP, kindO, seqOf, ownFz, wipeE, unwipe, consO, enmP, zipP, List.all_cons, List.all_nil, Bool.and_true, Bool.true_and, Bool.and_self, Option.bind_some, Option.map_some, List.getElem?_cons_zero, List.getElem?_cons_succ, List.set_cons_zero, List.set_cons_succ, Option.isSome_some, if_true, if_false, ite_true, ite_false, decide_true, decide_false, Bool.not_true, Bool.not_false, reduceIte, Bool.false_eq_true, p0, q0, p1, q1, ne_ss, ne_ii, eq_ii, beq_self_eq_true, sz0, sz1, sz2, sz3, sz4, sz5, sz6, sz7, sz8, sz9, sz10, sz11, sz12, sz13, sz14, sz15, sz16, sz17, sz18, sz19, sz20]
        rfl
      · have h3' : (a1 == 0) = false := by simpa using h3
        have hpos : 0 < a1 := by omega
        by_cases h4 : (b2 - b1) % a1 = 0
        · rw [if_pos ⟨rfl, rfl, h3, h4⟩]
          simp only [bd_ok, bd_exc, bd_bad, fo_ok, fo_exc, th_nx, th_ret, th_exc, th_brk, th_cnt, tk_nx, tk_cnt, tk_brk, tk_ret, tk_exc, x_nil, x_seq, kAsg_eq, x_asg, kUnp_eq, x_unp, kPar_eq, x_par, kSet2_eq, kSet1_eq, x_seti, kApp_eq, x_app, kExpr_eq, x_expr, x_ret, x_retN, kIf_eq, x_ife, kLoop_eq, x_loop, x_whl, kWh_eq, x_brk, x_cnt, x_pass, kCl2_eq, kCl1_eq, kTr_eq, kB2_eq, kB1_eq, kU_eq, kTup_eq, kLst_eq, kS2_eq, kS1_eq, kC3_eq, kC2_eq, kC1_eq, kCall_eq, kK2_eq, kK1_eq, kBl_eq, kM2_eq, kM1_eq, kCo_eq, kRg_eq, kEn_eq, kZ2_eq, kZ1_eq, v_int, t_int, v_str, t_str, v_bl, t_bl, v_non, t_non, v_cst, t_cst, v_fnv, t_fnv, v_tyv, t_tyv, v_bin, t_bin, v_un, t_un, v_tup, t_tup, v_lst, t_lst, v_sub, t_sub, v_slc, t_slc, v_call, t_call, v_callk, t_callk, v_blt, t_blt, v_mth, t_mth, v_comp, t_comp, v_rng, t_rng, v_enm, t_enm, v_zip, t_zip, kVb_eq, kQ2_eq, kQ1_eq, kH4_eq, kH3_eq, kH2_eq, kH1_eq, v_cmp, t_cmp, v_chn, t_chn, v_var, t_var, kN2_eq, kN1_eq, kNt_eq, v_not, t_not, kAn_eq, kAt_eq, v_and, t_and, kOn_eq, kOt_eq, v_or, t_or, kIv_eq, kIt_eq, v_ife, t_ife, v_seq, v_no, kOs2_eq, kOs1_eq, os_nil, os_cons, kF2_eq, kF1_eq, f_nil, f_cons, kG2_eq, kG1_eq, kG3_eq, g_nil, g_val, g_slot, kGt_eq, g_tmpc, o_var, kIe_eq, it_ev, p_no, kRt_eq, r_var, kV_eq, kPt_eq, o_int, r_int, p_int, o_str, r_str, p_str, o_bl, r_bl, p_bl, o_non, r_non, p_non, o_cst, r_cst, p_cst, o_fnv, r_fnv, p_fnv, o_tyv, r_tyv, p_tyv, o_bin, r_bin, p_bin, o_un, r_un, p_un, o_tup, r_tup, p_tup, o_lst, r_lst, p_lst, o_sub, r_sub, p_sub, o_slc, r_slc, p_slc, o_call, r_call, p_call, o_callk, r_callk, p_callk, o_blt, r_blt, p_blt, o_mth, r_mth, p_mth, o_comp, r_comp, p_comp, o_rng, r_rng, p_rng, o_enm, r_enm, p_enm, o_zip, r_zip, p_zip, o_cmp, r_cmp, p_cmp, o_chn, r_chn, p_chn, o_not, r_not, p_not, o_and, r_and, p_and, o_or, r_or, p_or, o_ife, r_ife, p_ife, p_var, kT3_eq, kT2_eq, evVar, tsVar, liftO, liftB, flOf, fzO, okIf, cmp2, rsO, rsOs, unP, truth, lstAt, argV, argVs, slotsOf, argBack, setP, itO, itemsP, setPar, isNonP, kindO, seqOf, ownFz, wipeE, unwipe, consO, enmP, zipP, List.all_cons, List.all_nil, Bool.and_true, Bool.true_and, Bool.and_self, Option.bind_some, Option.map_some, List.getElem?_cons_zero, List.getElem?_cons_succ, List.set_cons_zero, List.set_cons_succ, Option.isSome_some, if_true, if_false, ite_true, ite_false, decide_true, decide_false, Bool.not_true, Bool.not_false, reduceIte, Bool.false_eq_true, p0, q0, p1, q1, p2, q2, ne_ss, ne_ii, eq_ii, beq_self_eq_true, h3', sub_p, mod_p _ _ hpos, div_p _ _ hpos g1, h4, sz0, sz1, sz2, sz3, sz4, sz5, sz6, sz7, sz8, sz9, sz10, sz11, sz12, sz13, sz14, sz15, sz16, sz17, sz18, sz19, sz20]
          rfl
        · have h4' : ((b2 - b1) % a1 == 0) = false := by simpa using h4
          rw [if_neg fun z => h4 z.2.2.2]
          simp only [bd_ok, bd_exc, bd_bad, fo_ok, fo_exc, th_nx, th_ret, th_exc, th_brk, th_cnt, tk_nx, tk_cnt, tk_brk, tk_ret, tk_exc, x_nil, x_seq, kAsg_eq, x_asg, kUnp_eq, x_unp, kPar_eq, x_par, kSet2_eq, kSet1_eq, x_seti, kApp_eq, x_app, kExpr_eq, x_expr, x_ret, x_retN, kIf_eq, x_ife, kLoop_eq, x_loop, x_whl, kWh_eq, x_brk, x_cnt, x_pass, kCl2_eq, kCl1_eq, kTr_eq, kB2_eq, kB1_eq, kU_eq, kTup_eq, kLst_eq, kS2_eq, kS1_eq, kC3_eq, kC2_eq, kC1_eq, kCall_eq, kK2_eq, kK1_eq, kBl_eq, kM2_eq, kM1_eq, kCo_eq, kRg_eq, kEn_eq, kZ2_eq, kZ1_eq, v_int, t_int, v_str, t_str, v_bl, t_bl, v_non, t_non, v_cst, t_cst, v_fnv, t_fnv, v_tyv, t_tyv, v_bin, t_bin, v_un, t_un, v_tup, t_tup, v_lst, t_lst, v_sub, t_sub, v_slc, t_slc, v_call, t_call, v_callk, t_callk, v_blt, t_blt, v_mth, t_mth, v_comp, t_comp, v_rng, t_rng, v_enm, t_enm, v_zip, t_zip, kVb_eq, kQ2_eq, kQ1_eq, kH4_eq, kH3_eq, kH2_eq, kH1_eq, v_cmp, t_cmp, v_chn, t_chn, v_var, t_var, kN2_eq, kN1_eq, kNt_eq, v_not, t_not, kAn_eq, kAt_eq, v_and, t_and, kOn_eq, kOt_eq, v_or, t_or, kIv_eq, kIt_eq, v_ife, t_ife, v_seq, v_no, kOs2_eq, kOs1_eq, os_nil, os_cons, kF2_eq, kF1_eq, f_nil, f_cons, kG2_eq, kG1_eq, kG3_eq, g_nil, g_val, g_slot, kGt_eq, g_tmpc, o_var, kIe_eq, it_ev, p_no, kRt_eq, r_var, kV_eq, kPt_eq, o_int, r_int, p_int, o_str, r_str, p_str, o_bl, r_bl, p_bl, o_non, r_non, p_non, o_cst, r_cst, p_cst, o_fnv, r_fnv, p_fnv, o_tyv, r_tyv, p_tyv, o_bin, r_bin, p_bin, o_un, r_un, p_un, o_tup, r_tup, p_tup, o_lst, r_lst, p_lst, o_sub, r_sub, p_sub, o_slc, r_slc, p_slc, o_call, r_call, p_call, o_callk, r_callk, p_callk, o_blt, r_blt, p_blt, o_mth, r_mth, p_mth, o_comp, r_comp, p_comp, o_rng, r_rng, p_rng, o_enm, r_enm, p_enm, o_zip, r_zip, p_zip, o_cmp, r_cmp, p_cmp, o_chn, r_chn, p_chn, o_not, r_not, p_not, o_and, r_and, p_and, o_or, r_or, p_or, o_ife, r_ife, p_ife, p_var, kT3_eq, kT2_eq, evVar, tsVar, liftO, liftB, flOf, fzO, okIf, cmp2, rsO, rsOs, unP, truth, lstAt, argV, argVs, slotsOf, argBack, setP, itO, itemsP, setPar, isNonP, kindO, seqOf, ownFz, wipeE, unwipe, consO, enmP, zipP, List.all_cons, List.all_nil, Bool.and_true, Bool.true_and, Bool.and_self, Option.bind_some, Option.map_some, List.getElem?_cons_zero, List.getElem?_cons_succ, List.set_cons_zero, List.set_cons_succ, Option.isSome_some, if_true, if_false, ite_true, ite_false, decide_true, decide_false, Bool.not_true, Bool.not_false, reduceIte, Bool.false_eq_true, p0, q0, p1, q1, p2, q2, ne_ss, ne_ii, eq_ii, beq_self_eq_true, h3', sub_p, mod_p _ _ hpos, div_p _ _ hpos g1, h4', sz0, sz1, sz2, sz3, sz4, sz5, sz6, sz7, sz8, sz9, sz10, sz11, sz12, sz13, sz14, sz15, sz16, sz17, sz18, sz19, sz20]
          rfl
    · have h2' : (a1 == a2) = false := by simpa using h2
      rw [if_neg fun z => h2 z.2.1]
      simp only [bd_ok, bd_exc, bd_bad, fo_ok, fo_exc, th_nx, th_ret, th_exc, th_brk, th_cnt, tk_nx, tk_cnt, tk_brk, tk_ret, tk_exc, x_nil, x_seq, kAsg_eq, x_asg, kUnp_eq, x_unp, kPar_eq, x_par, kSet2_eq, kSet1_eq, x_seti, kApp_eq, x_app, kExpr_eq, x_expr, x_ret, x_retN, kIf_eq, x_ife, kLoop_eq, x_loop, x_whl, kWh_eq, x_brk, x_cnt, x_pass, kCl2_eq, kCl1_eq, kTr_eq, kB2_eq, kB1_eq, kU_eq, kTup_eq, kLst_eq, kS2_eq, kS1_eq, kC3_eq, kC2_eq, kC1_eq, kCall_eq, kK2_eq, kK1_eq, kBl_eq, kM2_eq, kM1_eq, kCo_eq, kRg_eq, kEn_eq, kZ2_eq, kZ1_eq, v_int, t_int, v_str, t_str, v_bl, t_bl, v_non, t_non, v_cst, t_cst, v_fnv, t_fnv, v_tyv, t_tyv, v_bin, t_bin, v_un, t_un, v_tup, t_tup, v_lst, t_lst, v_sub, t_sub, v_slc, t_slc, v_call, t_call, v_callk, t_callk, v_blt, t_blt, v_mth, t_mth, v_comp, t_comp, v_rng, t_rng, v_enm, t_enm, v_zip, t_zip, kVb_eq, kQ2_eq, kQ1_eq, kH4_eq, kH3_eq, kH2_eq, kH1_eq, v_cmp, t_cmp, v_chn, t_chn, v_var, t_var, kN2_eq, kN1_eq, kNt_eq, v_not, t_not, kAn_eq, kAt_eq, v_and, t_and, kOn_eq, kOt_eq, v_or, t_or, kIv_eq, kIt_eq, v_ife, t_ife, v_seq, v_no, kOs2_eq, kOs1_eq, os_nil, os_cons, kF2_eq, kF1_eq, f_nil, f_cons, kG2_eq, kG1_eq, kG3_eq, g_nil, g_val, g_slot, kGt_eq, g_tmpc, o_var, kIe_eq, it_ev, p_no, kRt_eq, r_var, kV_eq, kPt_eq, o_int, r_int, p_int, o_str, r_str, p_str, o_bl, r_bl, p_bl, o_non, r_non, p_non, o_cst, r_cst, p_cst, o_fnv, r_fnv, p_fnv, o_tyv, r_tyv, p_tyv, o_bin, r_bin, p_bin, o_un, r_un, p_un, o_tup, r_tup, p_tup, o_lst, r_lst, p_lst, o_sub, r_sub, p_sub, o_slc, r_slc, p_slc, o_call, r_call, p_call, o_callk, r_callk, p_callk, o_blt, r_blt, p_blt, o_mth, r_mth, p_mth, o_comp, r_comp, p_comp, o_rng, r_rng, p_rng, o_enm, r_enm, p_enm, o_zip, r_zip, p_zip, o_cmp, r_cmp, p_cmp, o_chn, r_chn, p_chn, o_not, r_not, p_not, o_and, r_and, p_and, o_or, r_or, p_or, o_ife, r_ife, p_ife, p_var, kT3_eq, kT2_eq, evVar, tsVar, liftO, liftB, flOf, fzO, okIf, cmp2, rsO, rsOs, unP, truth, lstAt, argV, argVs, slotsOf, argBack, setP, itO, itemsP, setPar, isNonP, kindO, seqOf, ownFz, wipeE, unwipe, consO, enmP, zipP, List.all_cons, List.all_nil, Bool.and_true, Bool.true_and, Bool.and_self, Option.bind_some, Option.map_some, List.getElem?_cons_zero, List.getElem?_cons_succ, List.set_cons_zero, List.set_cons_succ, Option.isSome_some, if_true, if_false, ite_true, ite_false, decide_true, decide_false, Bool.not_true, Bool.not_false, reduceIte, Bool.false_eq_true, p0, q0, p1, q1, ne_ss, ne_ii, eq_ii, beq_self_eq_true, h2', sz0, sz1, sz2, sz3, sz4, sz5, sz6, sz7, sz8, sz9, sz10, sz11, sz12, sz13, sz14, sz15, sz16, sz17, sz18, sz19, sz20]
      rfl
  · have h1' : (t == u) = false := by simpa using h1
    rw [if_neg fun z => h1 z.1]
    simp only [bd_ok, bd_exc, bd_bad, fo_ok, fo_exc, th_nx, th_ret, th_exc, th_brk, th_cnt, tk_nx, tk_cnt, tk_brk, tk_ret, tk_exc, x_nil, x_seq, kAsg_eq, x_asg, kUnp_eq, x_unp, kPar_eq, x_par, kSet2_eq, kSet1_eq, x_seti, kApp_eq, x_app, kExpr_eq, x_expr, x_ret, x_retN, kIf_eq, x_ife, kLoop_eq, x_loop, x_whl, kWh_eq, x_brk, x_cnt, x_pass, kCl2_eq, kCl1_eq, kTr_eq, kB2_eq, kB1_eq, kU_eq, kTup_eq, kLst_eq, kS2_eq, kS1_eq, kC3_eq, kC2_eq, kC1_eq, kCall_eq, kK2_eq, kK1_eq, kBl_eq, kM2_eq, kM1_eq, kCo_eq, kRg_eq, kEn_eq, kZ2_eq, kZ1_eq, v_int, t_int, v_str, t_str, v_bl, t_bl, v_non, t_non, v_cst, t_cst, v_fnv, t_fnv, v_tyv, t_tyv, v_bin, t_bin, v_un, t_un, v_tup, t_tup, v_lst, t_lst, v_sub, t_sub, v_slc, t_slc, v_call, t_call, v_callk, t_callk, v_blt, t_blt, v_mth, t_mth, v_comp, t_comp, v_rng, t_rng, v_enm, t_enm, v_zip, t_zip, kVb_eq, kQ2_eq, kQ1_eq, kH4_eq, kH3_eq, kH2_eq, kH1_eq, v_cmp, t_cmp, v_chn, t_chn, v_var, t_var, kN2_eq, kN1_eq, kNt_eq, v_not, t_not, kAn_eq, kAt_eq, v_and, t_and, kOn_eq, kOt_eq, v_or, t_or, kIv_eq, kIt_eq, v_ife, t_ife, v_seq, v_no, kOs2_eq, kOs1_eq, os_nil, os_cons, kF2_eq, kF1_eq, f_nil, f_cons, kG2_eq, kG1_eq, kG3_eq, g_nil, g_val, g_slot, kGt_eq, g_tmpc, o_var, kIe_eq, it_ev, p_no, kRt_eq, r_var, kV_eq, kPt_eq, o_int, r_int, p_int, o_str, r_str, p_str, o_bl, r_bl, p_bl, o_non, r_non, p_non, o_cst, r_cst, p_cst, o_fnv, r_fnv, p_fnv, o_tyv, r_tyv, p_tyv, o_bin, r_bin, p_bin, o_un, r_un, p_un, o_tup, r_tup, p_tup, o_lst, r_lst, p_lst, o_sub, r_sub, p_sub, o_slc, r_slc, p_slc, o_call, r_call, p_call, o_callk, r_callk, p_callk, o_blt, r_blt, p_blt, o_mth, r_mth, p_mth, o_comp, r_comp, p_comp, o_rng, r_rng, p_rng, o_enm, r_enm, p_enm, o_zip, r_zip, p_zip, o_cmp, r_cmp, p_cmp, o_chn, r_chn, p_chn, o_not, r_not, p_not, o_and, r_and, p_and, o_or, r_or, p_or, o_ife, r_ife, p_ife, p_var, kT3_eq, kT2_eq, evVar, tsVar, liftO, liftB, flOf, fzO, okIf, cmp2, rsO, rsOs, unP, truth, lstAt, argV, argVs, slotsOf, argBack, setP, itO, itemsP, setPar, isNonP, kindO, seqOf, ownFz, wipeE, unwipe, consO, enmP, zipP, List.all_cons, List.all_nil, Bool.and_true, Bool.true_and, Bool.and_self, Option.bind_some, Option.map_some, List.getElem?_cons_zero, List.getElem?_cons_succ, List.set_cons_zero, List.set_cons_succ, Option.isSome_some, if_true, if_false, ite_true, ite_false, decide_true, decide_false, Bool.not_true, Bool.not_false, reduceIte, Bool.false_eq_true, p0, q0, p1, q1, ne_ss, ne_ii, eq_ii, beq_self_eq_true, h1', sz0, sz1, sz2, sz3, sz4, sz5, sz6, sz7, sz8, sz9, sz10, sz11, sz12, sz13, sz14, sz15, sz16, sz17, sz18, sz19, sz20]
    rfl
/-! ### the program's own way -/
structure DivOk (C : Cal) : Prop where
  sig : C.sig "divisor" = some [false, false]
  run : ∀ a b : Int, 0 ≤ a → a ≤ 4 → 0 < b → b ≤ 4 → C.run "divisor" [.int a, .int b] = .ok (.int (Int.gcd a b), .fz) []
theorem div_run {C : Cal} (a b : Int) (h1 : 0 ≤ a) (h2 : a ≤ 4) (h3 : 0 < b) (h4 : b ≤ 4) : runF C (some d_divisor) [.int a, .int b] = .ok (.int (Int.gcd a b), .fz) [] := by
  have ha : a = 0 ∨ a = 1 ∨ a = 2 ∨ a = 3 ∨ a = 4 := by omega
  have hb : b = 1 ∨ b = 2 ∨ b = 3 ∨ b = 4 := by omega
  rcases ha with rfl | rfl | rfl | rfl | rfl <;> rcases hb with rfl | rfl | rfl | rfl <;> rfl
def ltG (a1 a2 g : Int) : Option Int := (upTo (a2 / (Int.gcd a1 a2 : Int)).toNat).find? fun k => (a1 * k - g) % a2 == 0
def ltn (a1 a2 g : Int) : Option Int :=
  if a2 = 0 then (if a1 = 0 then (if g = 0 then some 0 else none) else if 0 ≤ g ∧ g % a1 = 0 then some (g / a1) else none)
  else if a1 = 0 then (if g ≤ 0 ∧ g % a2 = 0 then some 0 else none)
  else if g % (Int.gcd a1 a2 : Int) = 0 then ltG a1 a2 g else none
theorem at_0 (l : List PV) : atI l 0 = l.head? := by
  cases l with
  | nil => rfl
  | cons x xs =>
    unfold atI ixN
    rw [if_pos (by decide), if_pos (by simp)]; rfl
def ltC : IE := (.cmp .Eq (.bin .Mod (.bin .Sub (.bin .Mult (.var 2) (.var 6)) (.var 4)) (.var 3)) (.int 0))
theorem lt_loop {C : Cal} {p q r : PV} {a1 a2 g : Int} (s1 : smallI a1 = true) (h2 : 0 < a2) : ∀ ks : List Int,
    compLoop (compTurnE [6] (.nm 6) (ev C ltC).2 (ev C (.var 6)).1) (ks.map PV.int) [some (p, .fz), some (q, .fz), some (.int a1, .fz), some (.int a2, .fz), some (.int g, .fz), some (r, .fz), none] = .ok ((ks.filter fun k => (a1 * k - g) % a2 == 0).map PV.int) [some (p, .fz), some (q, .fz), some (.int a1, .fz), some (.int a2, .fz), some (.int g, .fz), some (r, .fz), none]
  | [] => rfl
  | k :: ks => by
    have ih := lt_loop (C := C) (p := p) (q := q) (r := r) (g := g) s1 h2 ks
    have st : setG (.nm 6) (.int k) [some (p, .fz), some (q, .fz), some (.int a1, .fz), some (.int a2, .fz), some (.int g, .fz), some (r, .fz), none] = some [some (p, .fz), some (q, .fz), some (.int a1, .fz), some (.int a2, .fz), some (.int g, .fz), some (r, .fz), some (.int k, .fz)] := rfl
    have tn : compTurnE [6] (.nm 6) (ev C ltC).2 (ev C (.var 6)).1 (.int k) [some (p, .fz), some (q, .fz), some (.int a1, .fz), some (.int a2, .fz), some (.int g, .fz), some (r, .fz), none] = .ok (if (a1 * k - g) % a2 == 0 then some (.int k) else none) [some (p, .fz), some (q, .fz), some (.int a1, .fz), some (.int a2, .fz), some (.int g, .fz), some (r, .fz), none] := by
      unfold ltC
      cases c : ((a1 * k - g) % a2 == 0)
      · simp only [bd_ok, bd_exc, bd_bad, fo_ok, fo_exc, th_nx, th_ret, th_exc, th_brk, th_cnt, tk_nx, tk_cnt, tk_brk, tk_ret, tk_exc, x_nil, x_seq, kAsg_eq, x_asg, kUnp_eq, x_unp, kPar_eq, x_par, kSet2_eq, kSet1_eq, x_seti, kApp_eq, x_app, kExpr_eq, x_expr, x_ret, x_retN, kIf_eq, x_ife, kLoop_eq, x_loop, x_whl, kWh_eq, x_brk, x_cnt, x_pass, kCl2_eq, kCl1_eq, kTr_eq, kB2_eq, kB1_eq, kU_eq, kTup_eq, kLst_eq, kS2_eq, kS1_eq, kC3_eq, kC2_eq, kC1_eq, kCall_eq, kK2_eq, kK1_eq, kBl_eq, kM2_eq, kM1_eq, kCo_eq, kRg_eq, kEn_eq, kZ2_eq, kZ1_eq, v_int, t_int, v_str, t_str, v_bl, t_bl, v_non, t_non, v_cst, t_cst, v_fnv, t_fnv, v_tyv, t_tyv, v_bin, t_bin, v_un, t_un, v_tup, t_tup, v_lst, t_lst, v_sub, t_sub, v_slc, t_slc, v_call, t_call, v_callk, t_callk, v_blt, t_blt, v_mth, t_mth, v_comp, t_comp, v_rng, t_rng, v_enm, t_enm, v_zip, t_zip, kVb_eq, kQ2_eq, kQ1_eq, kH4_eq, kH3_eq, kH2_eq, kH1_eq, v_cmp, t_cmp, v_chn, t_chn, v_var, t_var, kN2_eq, kN1_eq, kNt_eq, v_not, t_not, kAn_eq, kAt_eq, v_and, t_and, kOn_eq, kOt_eq, v_or, t_or, kIv_eq, kIt_eq, v_ife, t_ife, v_seq, v_no, kOs2_eq, kOs1_eq, os_nil, os_cons, kF2_eq, kF1_eq, f_nil, f_cons, kG2_eq, kG1_eq, kG3_eq, g_nil, g_val, g_slot, kGt_eq, g_tmpc, o_var, kIe_eq, it_ev, p_no, kRt_eq, r_var, kV_eq, kPt_eq, o_int, r_int, p_int, o_str, r_str, p_str, o_bl, r_bl, p_bl, o_non, r_non, p_non, o_cst, r_cst, p_cst, o_fnv, r_fnv, p_fnv, o_tyv, r_tyv, p_tyv, o_bin, r_bin, p_bin, o_un, r_un, p_un, o_tup, r_tup, p_tup, o_lst, r_lst, p_lst, o_sub, r_sub, p_sub, o_slc, r_slc, p_slc, o_call, r_call, p_call, o_callk, r_callk, p_callk, o_blt, r_blt, p_blt, o_mth, r_mth, p_mth, o_comp, r_comp, p_comp, o_rng, r_rng, p_rng, o_enm, r_enm, p_enm, o_zip, r_zip, p_zip, o_cmp, r_cmp, p_cmp, o_chn, r_chn, p_chn, o_not, r_not, p_not, o_and, r_and, p_and, o_or, r_or, p_or, o_ife, r_ife, p_ife, p_var, kT3_eq, kT2_eq, evVar, tsVar, liftO, liftB, flOf, fzO, okIf, cmp2, rsO, rsOs, unP, truth, lstAt, argV, argVs, slotsOf, argBack, setP, itO, itemsP, setPar, isNonP, kindO, seqOf, ownFz, wipeE, unwipe, consO, enmP, zipP, List.all_cons, List.all_nil, Bool.and_true, Bool.true_and, Bool.and_self, Option.bind_some, Option.map_some, List.getElem?_cons_zero, List.getElem?_cons_succ, List.set_cons_zero, List.set_cons_succ, Option.isSome_some, if_true, if_false, ite_true, ite_false, decide_true, decide_false, Bool.not_true, Bool.not_false, reduceIte, Bool.false_eq_true, ct_eq, kT2_eq, kT3_eq, st, mul_l _ _ s1, sub_p, mod_p _ _ h2, eq_ii, c, sz0, sz1, sz2, sz3, sz4, sz5, sz6, sz7, sz8, sz9, sz10, sz11, sz12, sz13, sz14, sz15, sz16, sz17, sz18, sz19, sz20]
      · simp only [bd_ok, bd_exc, bd_bad, fo_ok, fo_exc, th_nx, th_ret, th_exc, th_brk, th_cnt, tk_nx, tk_cnt, tk_brk, tk_ret, tk_exc, x_nil, x_seq, kAsg_eq, x_asg, kUnp_eq, x_unp, kPar_eq, x_par, kSet2_eq, kSet1_eq, x_seti, kApp_eq, x_app, kExpr_eq, x_expr, x_ret, x_retN, kIf_eq, x_ife, kLoop_eq, x_loop, x_whl, kWh_eq, x_brk, x_cnt, x_pass, kCl2_eq, kCl1_eq, kTr_eq, kB2_eq, kB1_eq, kU_eq, kTup_eq, kLst_eq, kS2_eq, kS1_eq, kC3_eq, kC2_eq, kC1_eq, kCall_eq, kK2_eq, kK1_eq, kBl_eq, kM2_eq, kM1_eq, kCo_eq, kRg_eq, kEn_eq, kZ2_eq, kZ1_eq, v_int, t_int, v_str, t_str, v_bl, t_bl, v_non, t_non, v_cst, t_cst, v_fnv, t_fnv, v_tyv, t_tyv, v_bin, t_bin, v_un, t_un, v_tup, t_tup, v_lst, t_lst, v_sub, t_sub, v_slc, t_slc, v_call, t_call, v_callk, t_callk, v_blt, t_blt, v_mth, t_mth, v_comp, t_comp, v_rng, t_rng, v_enm, t_enm, v_zip, t_zip, kVb_eq, kQ2_eq, kQ1_eq, kH4_eq, kH3_eq, kH2_eq, kH1_eq, v_cmp, t_cmp, v_chn, t_chn, v_var, t_var, kN2_eq, kN1_eq, kNt_eq, v_not, t_not, kAn_eq, kAt_eq, v_and, t_and, kOn_eq, kOt_eq, v_or, t_or, kIv_eq, kIt_eq, v_ife, t_ife, v_seq, v_no, kOs2_eq, kOs1_eq, os_nil, os_cons, kF2_eq, kF1_eq, f_nil, f_cons, kG2_eq, kG1_eq, kG3_eq, g_nil, g_val, g_slot, kGt_eq, g_tmpc, o_var, kIe_eq, it_ev, p_no, kRt_eq, r_var, kV_eq, kPt_eq, o_int, r_int, p_int, o_str, r_str, p_str, o_bl, r_bl, p_bl, o_non, r_non, p_non, o_cst, r_cst, p_cst, o_fnv, r_fnv, p_fnv, o_tyv, r_tyv, p_tyv, o_bin, r_bin, p_bin, o_un, r_un, p_un, o_tup, r_tup, p_tup, o_lst, r_lst, p_lst, o_sub, r_sub, p_sub, o_slc, r_slc, p_slc, o_call, r_call, p_call, o_callk, r_callk, p_callk, o_blt, r_blt, p_blt, o_mth, r_mth, p_mth, o_comp, r_comp, p_comp, o_rng, r_rng, p_rng, o_enm, r_enm, p_enm, o_zip, r_zip, p_zip, o_cmp, r_cmp, p_cmp, o_chn, r_chn, p_chn, o_not, r_not, p_not, o_and, r_and, p_and, o_or, r_or, p_or, o_ife, r_ife, p_ife, p_var, kT3_eq, kT2_eq, evVar, tsVar, liftO, liftB, flOf, fzO, okIf, cmp2, rsO, rsOs, unP, truth, lstAt, argV, argVs, slotsOf, argBack, setP, itO, itemsP, setPar, isNonP, kindO, seqOf, ownFz, wipeE, unwipe, consO, enmP, zipP, List.all_cons, List.all_nil, Bool.and_true, Bool.true_and, Bool.and_self, Option.bind_some, Option.map_some, List.getElem?_cons_zero, List.getElem?_cons_succ, List.set_cons_zero, List.set_cons_succ, Option.isSome_some, if_true, if_false, ite_true, ite_false, decide_true, decide_false, Bool.not_true, Bool.not_false, reduceIte, Bool.false_eq_true, ct_eq, kT2_eq, kT3_eq, st, mul_l _ _ s1, sub_p, mod_p _ _ h2, eq_ii, c, sz0, sz1, sz2, sz3, sz4, sz5, sz6, sz7, sz8, sz9, sz10, sz11, sz12, sz13, sz14, sz15, sz16, sz17, sz18, sz19, sz20]
    rw [List.map_cons, cl_cons, tn, bd_ok, kCl1_eq, ih, bd_ok, kCl2_eq]
    cases c : ((a1 * k - g) % a2 == 0)
    · simp [List.filter_cons, c, consO]
    · simp [List.filter_cons, c, consO]
theorem gcd_pos {a b : Int} (h : b ≠ 0) : 0 < (Int.gcd a b : Int) := by
  have := Int.gcd_pos_of_ne_zero_right a h
  omega
def leastV (t u : Str) (a1 b1 a2 b2 : Int) : Option Int := if t = u then ltn a1 a2 (b2 - b1) else none
/-- there is such a turn -/
def Found (a1 a2 g : Int) : Prop := a1 ≠ 0 → a2 ≠ 0 → g % (Int.gcd a1 a2 : Int) = 0 → (ltG a1 a2 g).isSome = true
theorem least_run {C : Cal} (hD : DivOk C) {p q : PV} {t u : Str} {a1 b1 a2 b2 : Int} (hp : Pl p t a1 b1) (hq : Pl q u a2 b2) (l1 : 0 ≤ a1) (g1 : a1 ≤ 4) (l2 : 0 ≤ a2) (g2 : a2 ≤ 4) (hF : Found a1 a2 (b2 - b1)) :
    runF C (some d_least_turn) [p, q] = .ok (oI (leastV t u a1 b1 a2 b2), .fz) [] := by
  show finish [false, false] (exec C d_least_turn.body [some (p, .fz), some (q, .fz), none, none, none, none, none]) = _
  have p0 := hp.i0
  have q0 := hq.i0
  have p1 := hp.i1
  have q1 := hq.i1
  have p2 := hp.i2
  have q2 := hq.i2
  have s1 : smallI a1 = true := small_of (by omega) (by omega)
  have ul : ∀ (x y z : PV) (e : En), setG (.tup [2, 3, 4]) (.tup [x, y, z]) e = some (((e.set 2 (some (x, .fz))).set 3 (some (y, .fz))).set 4 (some (z, .fz))) := fun x y z e => rfl
  unfold leastV
  by_cases h : ¬ t = u
  · have h' : (t == u) = false := by simpa using h
    rw [if_neg h]
    unfold d_least_turn
    simp only [bd_ok, bd_exc, bd_bad, fo_ok, fo_exc, th_nx, th_ret, th_exc, th_brk, th_cnt, tk_nx, tk_cnt, tk_brk, tk_ret, tk_exc, x_nil, x_seq, kAsg_eq, x_asg, kUnp_eq, x_unp, kPar_eq, x_par, kSet2_eq, kSet1_eq, x_seti, kApp_eq, x_app, kExpr_eq, x_expr, x_ret, x_retN, kIf_eq, x_ife, kLoop_eq, x_loop, x_whl, kWh_eq, x_brk, x_cnt, x_pass, kCl2_eq, kCl1_eq, kTr_eq, kB2_eq, kB1_eq, kU_eq, kTup_eq, kLst_eq, kS2_eq, kS1_eq, kC3_eq, kC2_eq, kC1_eq, kCall_eq, kK2_eq, kK1_eq, kBl_eq, kM2_eq, kM1_eq, kCo_eq, kRg_eq, kEn_eq, kZ2_eq, kZ1_eq, v_int, t_int, v_str, t_str, v_bl, t_bl, v_non, t_non, v_cst, t_cst, v_fnv, t_fnv, v_tyv, t_tyv, v_bin, t_bin, v_un, t_un, v_tup, t_tup, v_lst, t_lst, v_sub, t_sub, v_slc, t_slc, v_call, t_call, v_callk, t_callk, v_blt, t_blt, v_mth, t_mth, v_comp, t_comp, v_rng, t_rng, v_enm, t_enm, v_zip, t_zip, kVb_eq, kQ2_eq, kQ1_eq, kH4_eq, kH3_eq, kH2_eq, kH1_eq, v_cmp, t_cmp, v_chn, t_chn, v_var, t_var, kN2_eq, kN1_eq, kNt_eq, v_not, t_not, kAn_eq, kAt_eq, v_and, t_and, kOn_eq, kOt_eq, v_or, t_or, kIv_eq, kIt_eq, v_ife, t_ife, v_seq, v_no, kOs2_eq, kOs1_eq, os_nil, os_cons, kF2_eq, kF1_eq, f_nil, f_cons, kG2_eq, kG1_eq, kG3_eq, g_nil, g_val, g_slot, kGt_eq, g_tmpc, o_var, kIe_eq, it_ev, p_no, kRt_eq, r_var, kV_eq, kPt_eq, o_int, r_int, p_int, o_str, r_str, p_str, o_bl, r_bl, p_bl, o_non, r_non, p_non, o_cst, r_cst, p_cst, o_fnv, r_fnv, p_fnv, o_tyv, r_tyv, p_tyv, o_bin, r_bin, p_bin, o_un, r_un, p_un, o_tup, r_tup, p_tup, o_lst, r_lst, p_lst, o_sub, r_sub, p_sub, o_slc, r_slc, p_slc, o_call, r_call, p_call, o_callk, r_callk, p_callk, o_blt, r_blt, p_blt, o_mth, r_mth, p_mth, o_comp, r_comp, p_comp, o_rng, r_rng, p_rng, o_enm, r_enm, p_enm, o_zip, r_zip, p_zip, o_cmp, r_cmp, p_cmp, o_chn, r_chn, p_chn, o_not, r_not, p_not, o_and, r_and, p_and, o_or, r_or, p_or, o_ife, r_ife, p_ife, p_var, kT3_eq, kT2_eq, evVar, tsVar, liftO, liftB, flOf, fzO, okIf, cmp2, rsO, rsOs, unP, truth, lstAt, argV, argVs, slotsOf, argBack, setP, itO, itemsP, setPar, isNonP, kindO, seqOf, ownFz, wipeE, unwipe, consO, enmP, zipP, List.all_cons, List.all_nil, Bool.and_true, Bool.true_and, Bool.and_self, Option.bind_some, Option.map_some, List.getElem?_cons_zero, List.getElem?_cons_succ, List.set_cons_zero, List.set_cons_succ, Option.isSome_some, if_true, if_false, ite_true, ite_false, decide_true, decide_false, Bool.not_true, Bool.not_false, reduceIte, Bool.false_eq_true, p0, q0, ne_ss, h', sz0, sz1, sz2, sz3, sz4, sz5, sz6, sz7, sz8, sz9, sz10, sz11, sz12, sz13, sz14, sz15, sz16, sz17, sz18, sz19, sz20]
    rfl
  have h := Classical.not_not.mp h
  subst h
  rw [if_pos rfl]
  generalize hg : b2 - b1 = g at *
  unfold ltn
  by_cases h2 : a2 = 0
  · subst h2
    rw [if_pos rfl]
    by_cases h1 : a1 = 0
    · subst h1
      rw [if_pos rfl]
      by_cases h3 : g = 0
      · rw [if_pos h3]
        unfold d_least_turn
        simp only [bd_ok, bd_exc, bd_bad, fo_ok, fo_exc, th_nx, th_ret, th_exc, th_brk, th_cnt, tk_nx, tk_cnt, tk_brk, tk_ret, tk_exc, x_nil, x_seq, kAsg_eq, x_asg, kUnp_eq, x_unp, kPar_eq, x_par, kSet2_eq, kSet1_eq, x_seti, kApp_eq, x_app, kExpr_eq, x_expr, x_ret, x_retN, kIf_eq, x_ife, kLoop_eq, x_loop, x_whl, kWh_eq, x_brk, x_cnt, x_pass, kCl2_eq, kCl1_eq, kTr_eq, kB2_eq, kB1_eq, kU_eq, kTup_eq, kLst_eq, kS2_eq, kS1_eq, kC3_eq, kC2_eq, kC1_eq, kCall_eq, kK2_eq, kK1_eq, kBl_eq, kM2_eq, kM1_eq, kCo_eq, kRg_eq, kEn_eq, kZ2_eq, kZ1_eq, v_int, t_int, v_str, t_str, v_bl, t_bl, v_non, t_non, v_cst, t_cst, v_fnv, t_fnv, v_tyv, t_tyv, v_bin, t_bin, v_un, t_un, v_tup, t_tup, v_lst, t_lst, v_sub, t_sub, v_slc, t_slc, v_call, t_call, v_callk, t_callk, v_blt, t_blt, v_mth, t_mth, v_comp, t_comp, v_rng, t_rng, v_enm, t_enm, v_zip, t_zip, kVb_eq, kQ2_eq, kQ1_eq, kH4_eq, kH3_eq, kH2_eq, kH1_eq, v_cmp, t_cmp, v_chn, t_chn, v_var, t_var, kN2_eq, kN1_eq, kNt_eq, v_not, t_not, kAn_eq, kAt_eq, v_and, t_and, kOn_eq, kOt_eq, v_or, t_or, kIv_eq, kIt_eq, v_ife, t_ife, v_seq, v_no, kOs2_eq, kOs1_eq, os_nil, os_cons, kF2_eq, kF1_eq, f_nil, f_cons, kG2_eq, kG1_eq, kG3_eq, g_nil, g_val, g_slot, kGt_eq, g_tmpc, o_var, kIe_eq, it_ev, p_no, kRt_eq, r_var, kV_eq, kPt_eq, o_int, r_int, p_int, o_str, r_str, p_str, o_bl, r_bl, p_bl, o_non, r_non, p_non, o_cst, r_cst, p_cst, o_fnv, r_fnv, p_fnv, o_tyv, r_tyv, p_tyv, o_bin, r_bin, p_bin, o_un, r_un, p_un, o_tup, r_tup, p_tup, o_lst, r_lst, p_lst, o_sub, r_sub, p_sub, o_slc, r_slc, p_slc, o_call, r_call, p_call, o_callk, r_callk, p_callk, o_blt, r_blt, p_blt, o_mth, r_mth, p_mth, o_comp, r_comp, p_comp, o_rng, r_rng, p_rng, o_enm, r_enm, p_enm, o_zip, r_zip, p_zip, o_cmp, r_cmp, p_cmp, o_chn, r_chn, p_chn, o_not, r_not, p_not, o_and, r_and, p_and, o_or, r_or, p_or, o_ife, r_ife, p_ife, p_var, kT3_eq, kT2_eq, evVar, tsVar, liftO, liftB, flOf, fzO, okIf, cmp2, rsO, rsOs, unP, truth, lstAt, argV, argVs, slotsOf, argBack, setP, itO, itemsP, setPar, isNonP, kindO, seqOf, ownFz, wipeE, unwipe, consO, enmP, zipP, List.all_cons, List.all_nil, Bool.and_true, Bool.true_and, Bool.and_self, Option.bind_some, Option.map_some, List.getElem?_cons_zero, List.getElem?_cons_succ, List.set_cons_zero, List.set_cons_succ, Option.isSome_some, if_true, if_false, ite_true, ite_false, decide_true, decide_false, Bool.not_true, Bool.not_false, reduceIte, Bool.false_eq_true, p0, q0, p1, q1, p2, q2, ne_ss, eq_ii, sub_p, hg, h3, beq_self_eq_true, ul, sz0, sz1, sz2, sz3, sz4, sz5, sz6, sz7, sz8, sz9, sz10, sz11, sz12, sz13, sz14, sz15, sz16, sz17, sz18, sz19, sz20]
        rfl
      · have h3' : (g == 0) = false := by simpa using h3
        rw [if_neg h3]
        unfold d_least_turn
        simp only [bd_ok, bd_exc, bd_bad, fo_ok, fo_exc, th_nx, th_ret, th_exc, th_brk, th_cnt, tk_nx, tk_cnt, tk_brk, tk_ret, tk_exc, x_nil, x_seq, kAsg_eq, x_asg, kUnp_eq, x_unp, kPar_eq, x_par, kSet2_eq, kSet1_eq, x_seti, kApp_eq, x_app, kExpr_eq, x_expr, x_ret, x_retN, kIf_eq, x_ife, kLoop_eq, x_loop, x_whl, kWh_eq, x_brk, x_cnt, x_pass, kCl2_eq, kCl1_eq, kTr_eq, kB2_eq, kB1_eq, kU_eq, kTup_eq, kLst_eq, kS2_eq, kS1_eq, kC3_eq, kC2_eq, kC1_eq, kCall_eq, kK2_eq, kK1_eq, kBl_eq, kM2_eq, kM1_eq, kCo_eq, kRg_eq, kEn_eq, kZ2_eq, kZ1_eq, v_int, t_int, v_str, t_str, v_bl, t_bl, v_non, t_non, v_cst, t_cst, v_fnv, t_fnv, v_tyv, t_tyv, v_bin, t_bin, v_un, t_un, v_tup, t_tup, v_lst, t_lst, v_sub, t_sub, v_slc, t_slc, v_call, t_call, v_callk, t_callk, v_blt, t_blt, v_mth, t_mth, v_comp, t_comp, v_rng, t_rng, v_enm, t_enm, v_zip, t_zip, kVb_eq, kQ2_eq, kQ1_eq, kH4_eq, kH3_eq, kH2_eq, kH1_eq, v_cmp, t_cmp, v_chn, t_chn, v_var, t_var, kN2_eq, kN1_eq, kNt_eq, v_not, t_not, kAn_eq, kAt_eq, v_and, t_and, kOn_eq, kOt_eq, v_or, t_or, kIv_eq, kIt_eq, v_ife, t_ife, v_seq, v_no, kOs2_eq, kOs1_eq, os_nil, os_cons, kF2_eq, kF1_eq, f_nil, f_cons, kG2_eq, kG1_eq, kG3_eq, g_nil, g_val, g_slot, kGt_eq, g_tmpc, o_var, kIe_eq, it_ev, p_no, kRt_eq, r_var, kV_eq, kPt_eq, o_int, r_int, p_int, o_str, r_str, p_str, o_bl, r_bl, p_bl, o_non, r_non, p_non, o_cst, r_cst, p_cst, o_fnv, r_fnv, p_fnv, o_tyv, r_tyv, p_tyv, o_bin, r_bin, p_bin, o_un, r_un, p_un, o_tup, r_tup, p_tup, o_lst, r_lst, p_lst, o_sub, r_sub, p_sub, o_slc, r_slc, p_slc, o_call, r_call, p_call, o_callk, r_callk, p_callk, o_blt, r_blt, p_blt, o_mth, r_mth, p_mth, o_comp, r_comp, p_comp, o_rng, r_rng, p_rng, o_enm, r_enm, p_enm, o_zip, r_zip, p_zip, o_cmp, r_cmp, p_cmp, o_chn, r_chn, p_chn, o_not, r_not, p_not, o_and, r_and, p_and, o_or, r_or, p_or, o_ife, r_ife, p_ife, p_var, kT3_eq, kT2_eq, evVar, tsVar, liftO, liftB, flOf, fzO, okIf, cmp2, rsO, rsOs, unP, truth, lstAt, argV, argVs, slotsOf, argBack, setP, itO, itemsP, setPar, isNonP, kindO, seqOf, ownFz, wipeE, unwipe, consO, enmP, zipP, List.all_cons, List.all_nil, Bool.and_true, Bool.true_and, Bool.and_self, Option.bind_some, Option.map_some, List.getElem?_cons_zero, List.getElem?_cons_succ, List.set_cons_zero, List.set_cons_succ, Option.isSome_some, if_true, if_false, ite_true, ite_false, decide_true, decide_false, Bool.not_true, Bool.not_false, reduceIte, Bool.false_eq_true, p0, q0, p1, q1, p2, q2, ne_ss, eq_ii, sub_p, hg, h3', beq_self_eq_true, ul, sz0, sz1, sz2, sz3, sz4, sz5, sz6, sz7, sz8, sz9, sz10, sz11, sz12, sz13, sz14, sz15, sz16, sz17, sz18, sz19, sz20]
        rfl
    · have h1' : (a1 == 0) = false := by simpa using h1
      have hpos : 0 < a1 := by omega
      have hsm : a1 < 1073741824 := by omega
      rw [if_neg h1]
      by_cases c1 : 0 ≤ g
      · by_cases c2 : g % a1 = 0
        · rw [if_pos ⟨c1, c2⟩]
          unfold d_least_turn
          simp only [bd_ok, bd_exc, bd_bad, fo_ok, fo_exc, th_nx, th_ret, th_exc, th_brk, th_cnt, tk_nx, tk_cnt, tk_brk, tk_ret, tk_exc, x_nil, x_seq, kAsg_eq, x_asg, kUnp_eq, x_unp, kPar_eq, x_par, kSet2_eq, kSet1_eq, x_seti, kApp_eq, x_app, kExpr_eq, x_expr, x_ret, x_retN, kIf_eq, x_ife, kLoop_eq, x_loop, x_whl, kWh_eq, x_brk, x_cnt, x_pass, kCl2_eq, kCl1_eq, kTr_eq, kB2_eq, kB1_eq, kU_eq, kTup_eq, kLst_eq, kS2_eq, kS1_eq, kC3_eq, kC2_eq, kC1_eq, kCall_eq, kK2_eq, kK1_eq, kBl_eq, kM2_eq, kM1_eq, kCo_eq, kRg_eq, kEn_eq, kZ2_eq, kZ1_eq, v_int, t_int, v_str, t_str, v_bl, t_bl, v_non, t_non, v_cst, t_cst, v_fnv, t_fnv, v_tyv, t_tyv, v_bin, t_bin, v_un, t_un, v_tup, t_tup, v_lst, t_lst, v_sub, t_sub, v_slc, t_slc, v_call, t_call, v_callk, t_callk, v_blt, t_blt, v_mth, t_mth, v_comp, t_comp, v_rng, t_rng, v_enm, t_enm, v_zip, t_zip, kVb_eq, kQ2_eq, kQ1_eq, kH4_eq, kH3_eq, kH2_eq, kH1_eq, v_cmp, t_cmp, v_chn, t_chn, v_var, t_var, kN2_eq, kN1_eq, kNt_eq, v_not, t_not, kAn_eq, kAt_eq, v_and, t_and, kOn_eq, kOt_eq, v_or, t_or, kIv_eq, kIt_eq, v_ife, t_ife, v_seq, v_no, kOs2_eq, kOs1_eq, os_nil, os_cons, kF2_eq, kF1_eq, f_nil, f_cons, kG2_eq, kG1_eq, kG3_eq, g_nil, g_val, g_slot, kGt_eq, g_tmpc, o_var, kIe_eq, it_ev, p_no, kRt_eq, r_var, kV_eq, kPt_eq, o_int, r_int, p_int, o_str, r_str, p_str, o_bl, r_bl, p_bl, o_non, r_non, p_non, o_cst, r_cst, p_cst, o_fnv, r_fnv, p_fnv, o_tyv, r_tyv, p_tyv, o_bin, r_bin, p_bin, o_un, r_un, p_un, o_tup, r_tup, p_tup, o_lst, r_lst, p_lst, o_sub, r_sub, p_sub, o_slc, r_slc, p_slc, o_call, r_call, p_call, o_callk, r_callk, p_callk, o_blt, r_blt, p_blt, o_mth, r_mth, p_mth, o_comp, r_comp, p_comp, o_rng, r_rng, p_rng, o_enm, r_enm, p_enm, o_zip, r_zip, p_zip, o_cmp, r_cmp, p_cmp, o_chn, r_chn, p_chn, o_not, r_not, p_not, o_and, r_and, p_and, o_or, r_or, p_or, o_ife, r_ife, p_ife, p_var, kT3_eq, kT2_eq, evVar, tsVar, liftO, liftB, flOf, fzO, okIf, cmp2, rsO, rsOs, unP, truth, lstAt, argV, argVs, slotsOf, argBack, setP, itO, itemsP, setPar, isNonP, kindO, seqOf, ownFz, wipeE, unwipe, consO, enmP, zipP, List.all_cons, List.all_nil, Bool.and_true, Bool.true_and, Bool.and_self, Option.bind_some, Option.map_some, List.getElem?_cons_zero, List.getElem?_cons_succ, List.set_cons_zero, List.set_cons_succ, Option.isSome_some, if_true, if_false, ite_true, ite_false, decide_true, decide_false, Bool.not_true, Bool.not_false, reduceIte, Bool.false_eq_true, p0, q0, p1, q1, p2, q2, ne_ss, eq_ii, ge_ii, sub_p, hg, h1', c1, c2, mod_p _ _ hpos, div_p _ _ hpos hsm, beq_self_eq_true, ul, sz0, sz1, sz2, sz3, sz4, sz5, sz6, sz7, sz8, sz9, sz10, sz11, sz12, sz13, sz14, sz15, sz16, sz17, sz18, sz19, sz20]
          rfl
        · have c2' : (g % a1 == 0) = false := by simpa using c2
          rw [if_neg fun z => c2 z.2]
          unfold d_least_turn
          simp only [bd_ok, bd_exc, bd_bad, fo_ok, fo_exc, th_nx, th_ret, th_exc, th_brk, th_cnt, tk_nx, tk_cnt, tk_brk, tk_ret, tk_exc, x_nil, x_seq, kAsg_eq, x_asg, kUnp_eq, x_unp, kPar_eq, x_par, kSet2_eq, kSet1_eq, x_seti, kApp_eq, x_app, kExpr_eq, x_expr, x_ret, x_retN, kIf_eq, x_ife, kLoop_eq, x_loop, x_whl, kWh_eq, x_brk, x_cnt, x_pass, kCl2_eq, kCl1_eq, kTr_eq, kB2_eq, kB1_eq, kU_eq, kTup_eq, kLst_eq, kS2_eq, kS1_eq, kC3_eq, kC2_eq, kC1_eq, kCall_eq, kK2_eq, kK1_eq, kBl_eq, kM2_eq, kM1_eq, kCo_eq, kRg_eq, kEn_eq, kZ2_eq, kZ1_eq, v_int, t_int, v_str, t_str, v_bl, t_bl, v_non, t_non, v_cst, t_cst, v_fnv, t_fnv, v_tyv, t_tyv, v_bin, t_bin, v_un, t_un, v_tup, t_tup, v_lst, t_lst, v_sub, t_sub, v_slc, t_slc, v_call, t_call, v_callk, t_callk, v_blt, t_blt, v_mth, t_mth, v_comp, t_comp, v_rng, t_rng, v_enm, t_enm, v_zip, t_zip, kVb_eq, kQ2_eq, kQ1_eq, kH4_eq, kH3_eq, kH2_eq, kH1_eq, v_cmp, t_cmp, v_chn, t_chn, v_var, t_var, kN2_eq, kN1_eq, kNt_eq, v_not, t_not, kAn_eq, kAt_eq, v_and, t_and, kOn_eq, kOt_eq, v_or, t_or, kIv_eq, kIt_eq, v_ife, t_ife, v_seq, v_no, kOs2_eq, kOs1_eq, os_nil, os_cons, kF2_eq, kF1_eq, f_nil, f_cons, kG2_eq, kG1_eq, kG3_eq, g_nil, g_val, g_slot, kGt_eq, g_tmpc, o_var, kIe_eq, it_ev, p_no, kRt_eq, r_var, kV_eq, kPt_eq, o_int, r_int, p_int, o_str, r_str, p_str, o_bl, r_bl, p_bl, o_non, r_non, p_non, o_cst, r_cst, p_cst, o_fnv, r_fnv, p_fnv, o_tyv, r_tyv, p_tyv, o_bin, r_bin, p_bin, o_un, r_un, p_un, o_tup, r_tup, p_tup, o_lst, r_lst, p_lst, o_sub, r_sub, p_sub, o_slc, r_slc, p_slc, o_call, r_call, p_call, o_callk, r_callk, p_callk, o_blt, r_blt, p_blt, o_mth, r_mth, p_mth, o_comp, r_comp, p_comp, o_rng, r_rng, p_rng, o_enm, r_enm, p_enm, o_zip, r_zip, p_zip, o_cmp, r_cmp, p_cmp, o_chn, r_chn, p_chn, o_not, r_not, p_not, o_and, r_and, p_and, o_or, r_or, p_or, o_ife, r_ife, p_ife, p_var, kT3_eq, kT2_eq, evVar, tsVar, liftO, liftB, flOf, fzO, okIf, cmp2, rsO, rsOs, unP, truth, lstAt, argV, argVs, slotsOf, argBack, setP, itO, itemsP, setPar, isNonP, kindO, seqOf, ownFz, wipeE, unwipe, consO, enmP, zipP, List.all_cons, List.all_nil, Bool.and_true, Bool.true_and, Bool.and_self, Option.bind_some, Option.map_some, List.getElem?_cons_zero, List.getElem?_cons_succ, List.set_cons_zero, List.set_cons_succ, Option.isSome_some, if_true, if_false, ite_true, ite_false, decide_true, decide_false, Bool.not_true, Bool.not_false, reduceIte, Bool.false_eq_true, p0, q0, p1, q1, p2, q2, ne_ss, eq_ii, ge_ii, sub_p, hg, h1', c1, c2', mod_p _ _ hpos, div_p _ _ hpos hsm, beq_self_eq_true, ul, sz0, sz1, sz2, sz3, sz4, sz5, sz6, sz7, sz8, sz9, sz10, sz11, sz12, sz13, sz14, sz15, sz16, sz17, sz18, sz19, sz20]
          rfl
      · rw [if_neg fun z => c1 z.1]
        unfold d_least_turn
        simp only [bd_ok, bd_exc, bd_bad, fo_ok, fo_exc, th_nx, th_ret, th_exc, th_brk, th_cnt, tk_nx, tk_cnt, tk_brk, tk_ret, tk_exc, x_nil, x_seq, kAsg_eq, x_asg, kUnp_eq, x_unp, kPar_eq, x_par, kSet2_eq, kSet1_eq, x_seti, kApp_eq, x_app, kExpr_eq, x_expr, x_ret, x_retN, kIf_eq, x_ife, kLoop_eq, x_loop, x_whl, kWh_eq, x_brk, x_cnt, x_pass, kCl2_eq, kCl1_eq, kTr_eq, kB2_eq, kB1_eq, kU_eq, kTup_eq, kLst_eq, kS2_eq, kS1_eq, kC3_eq, kC2_eq, kC1_eq, kCall_eq, kK2_eq, kK1_eq, kBl_eq, kM2_eq, kM1_eq, kCo_eq, kRg_eq, kEn_eq, kZ2_eq, kZ1_eq, v_int, t_int, v_str, t_str, v_bl, t_bl, v_non, t_non, v_cst, t_cst, v_fnv, t_fnv, v_tyv, t_tyv, v_bin, t_bin, v_un, t_un, v_tup, t_tup, v_lst, t_lst, v_sub, t_sub, v_slc, t_slc, v_call, t_call, v_callk, t_callk, v_blt, t_blt, v_mth, t_mth, v_comp, t_comp, v_rng, t_rng, v_enm, t_enm, v_zip, t_zip, kVb_eq, kQ2_eq, kQ1_eq, kH4_eq, kH3_eq, kH2_eq, kH1_eq, v_cmp, t_cmp, v_chn, t_chn, v_var, t_var, kN2_eq, kN1_eq, kNt_eq, v_not, t_not, kAn_eq, kAt_eq, v_and, t_and, kOn_eq, kOt_eq, v_or, t_or, kIv_eq, kIt_eq, v_ife, t_ife, v_seq, v_no, kOs2_eq, kOs1_eq, os_nil, os_cons, kF2_eq, kF1_eq, f_nil, f_cons, kG2_eq, kG1_eq, kG3_eq, g_nil, g_val, g_slot, kGt_eq, g_tmpc, o_var, kIe_eq, it_ev, p_no, kRt_eq, r_var, kV_eq, kPt_eq, o_int, r_int, p_int, o_str, r_str, p_str, o_bl, r_bl, p_bl, o_non, r_non, p_non, o_cst, r_cst, p_cst, o_fnv, r_fnv, p_fnv, o_tyv, r_tyv, p_tyv, o_bin, r_bin, p_bin, o_un, r_un, p_un, o_tup, r_tup, p_tup, o_lst, r_lst, p_lst, o_sub, r_sub, p_sub, o_slc, r_slc, p_slc, o_call, r_call, p_call, o_callk, r_callk, p_callk, o_blt, r_blt, p_blt, o_mth, r_mth, p_mth, o_comp, r_comp, p_comp, o_rng, r_rng, p_rng, o_enm, r_enm, p_enm, o_zip, r_zip, p_zip, o_cmp, r_cmp, p_cmp, o_chn, r_chn, p_chn, o_not, r_not, p_not, o_and, r_and, p_and, o_or, r_or, p_or, o_ife, r_ife, p_ife, p_var, kT3_eq, kT2_eq, evVar, tsVar, liftO, liftB, flOf, fzO, okIf, cmp2, rsO, rsOs, unP, truth, lstAt, argV, argVs, slotsOf, argBack, setP, itO, itemsP, setPar, isNonP, kindO, seqOf, ownFz, wipeE, unwipe, consO, enmP, zipP, List.all_cons, List.all_nil, Bool.and_true, Bool.true_and, Bool.and_self, Option.bind_some, Option.map_some, List.getElem?_cons_zero, List.getElem?_cons_succ, List.set_cons_zero, List.set_cons_succ, Option.isSome_some, if_true, if_false, ite_true, ite_false, decide_true, decide_false, Bool.not_true, Bool.not_false, reduceIte, Bool.false_eq_true, p0, q0, p1, q1, p2, q2, ne_ss, eq_ii, ge_ii, sub_p, hg, h1', c1, mod_p _ _ hpos, div_p _ _ hpos hsm, beq_self_eq_true, ul, sz0, sz1, sz2, sz3, sz4, sz5, sz6, sz7, sz8, sz9, sz10, sz11, sz12, sz13, sz14, sz15, sz16, sz17, sz18, sz19, sz20]
        rfl
  · have h2' : (a2 == 0) = false := by simpa using h2
    have hp2 : 0 < a2 := by omega
    rw [if_neg h2]
    by_cases h1 : a1 = 0
    · subst h1
      rw [if_pos rfl]
      by_cases c1 : g ≤ 0
      · by_cases c2 : g % a2 = 0
        · rw [if_pos ⟨c1, c2⟩]
          unfold d_least_turn
          simp only [bd_ok, bd_exc, bd_bad, fo_ok, fo_exc, th_nx, th_ret, th_exc, th_brk, th_cnt, tk_nx, tk_cnt, tk_brk, tk_ret, tk_exc, x_nil, x_seq, kAsg_eq, x_asg, kUnp_eq, x_unp, kPar_eq, x_par, kSet2_eq, kSet1_eq, x_seti, kApp_eq, x_app, kExpr_eq, x_expr, x_ret, x_retN, kIf_eq, x_ife, kLoop_eq, x_loop, x_whl, kWh_eq, x_brk, x_cnt, x_pass, kCl2_eq, kCl1_eq, kTr_eq, kB2_eq, kB1_eq, kU_eq, kTup_eq, kLst_eq, kS2_eq, kS1_eq, kC3_eq, kC2_eq, kC1_eq, kCall_eq, kK2_eq, kK1_eq, kBl_eq, kM2_eq, kM1_eq, kCo_eq, kRg_eq, kEn_eq, kZ2_eq, kZ1_eq, v_int, t_int, v_str, t_str, v_bl, t_bl, v_non, t_non, v_cst, t_cst, v_fnv, t_fnv, v_tyv, t_tyv, v_bin, t_bin, v_un, t_un, v_tup, t_tup, v_lst, t_lst, v_sub, t_sub, v_slc, t_slc, v_call, t_call, v_callk, t_callk, v_blt, t_blt, v_mth, t_mth, v_comp, t_comp, v_rng, t_rng, v_enm, t_enm, v_zip, t_zip, kVb_eq, kQ2_eq, kQ1_eq, kH4_eq, kH3_eq, kH2_eq, kH1_eq, v_cmp, t_cmp, v_chn, t_chn, v_var, t_var, kN2_eq, kN1_eq, kNt_eq, v_not, t_not, kAn_eq, kAt_eq, v_and, t_and, kOn_eq, kOt_eq, v_or, t_or, kIv_eq, kIt_eq, v_ife, t_ife, v_seq, v_no, kOs2_eq, kOs1_eq, os_nil, os_cons, kF2_eq, kF1_eq, f_nil, f_cons, kG2_eq, kG1_eq, kG3_eq, g_nil, g_val, g_slot, kGt_eq, g_tmpc, o_var, kIe_eq, it_ev, p_no, kRt_eq, r_var, kV_eq, kPt_eq, o_int, r_int, p_int, o_str, r_str, p_str, o_bl, r_bl, p_bl, o_non, r_non, p_non, o_cst, r_cst, p_cst, o_fnv, r_fnv, p_fnv, o_tyv, r_tyv, p_tyv, o_bin, r_bin, p_bin, o_un, r_un, p_un, o_tup, r_tup, p_tup, o_lst, r_lst, p_lst, o_sub, r_sub, p_sub, o_slc, r_slc, p_slc, o_call, r_call, p_call, o_callk, r_callk, p_callk, o_blt, r_blt, p_blt, o_mth, r_mth, p_mth, o_comp, r_comp, p_comp, o_rng, r_rng, p_rng, o_enm, r_enm, p_enm, o_zip, r_zip, p_zip, o_cmp, r_cmp, p_cmp, o_chn, r_chn, p_chn, o_not, r_not, p_not, o_and, r_and, p_and, o_or, r_or, p_or, o_ife, r_ife, p_ife, p_var, kT3_eq, kT2_eq, evVar, tsVar, liftO, liftB, flOf, fzO, okIf, cmp2, rsO, rsOs, unP, truth, lstAt, argV, argVs, slotsOf, argBack, setP, itO, itemsP, setPar, isNonP, kindO, seqOf, ownFz, wipeE, unwipe, consO, enmP, zipP, List.all_cons, List.all_nil, Bool.and_true, Bool.true_and, Bool.and_self, Option.bind_some, Option.map_some, List.getElem?_cons_zero, List.getElem?_cons_succ, List.set_cons_zero, List.set_cons_succ, Option.isSome_some, if_true, if_false, ite_true, ite_false, decide_true, decide_false, Bool.not_true, Bool.not_false, reduceIte, Bool.false_eq_true, p0, q0, p1, q1, p2, q2, ne_ss, eq_ii, le_ii, sub_p, hg, h2', c1, c2, mod_p _ _ hp2, beq_self_eq_true, ul, sz0, sz1, sz2, sz3, sz4, sz5, sz6, sz7, sz8, sz9, sz10, sz11, sz12, sz13, sz14, sz15, sz16, sz17, sz18, sz19, sz20]
          rfl
        · have c2' : (g % a2 == 0) = false := by simpa using c2
          rw [if_neg fun z => c2 z.2]
          unfold d_least_turn
          simp only [bd_ok, bd_exc, bd_bad, fo_ok, fo_exc, th_nx, th_ret, th_exc, th_brk, th_cnt, tk_nx, tk_cnt, tk_brk, tk_ret, tk_exc, x_nil, x_seq, kAsg_eq, x_asg, kUnp_eq, x_unp, kPar_eq, x_par, kSet2_eq, kSet1_eq, x_seti, kApp_eq, x_app, kExpr_eq, x_expr, x_ret, x_retN, kIf_eq, x_ife, kLoop_eq, x_loop, x_whl, kWh_eq, x_brk, x_cnt, x_pass, kCl2_eq, kCl1_eq, kTr_eq, kB2_eq, kB1_eq, kU_eq, kTup_eq, kLst_eq, kS2_eq, kS1_eq, kC3_eq, kC2_eq, kC1_eq, kCall_eq, kK2_eq, kK1_eq, kBl_eq, kM2_eq, kM1_eq, kCo_eq, kRg_eq, kEn_eq, kZ2_eq, kZ1_eq, v_int, t_int, v_str, t_str, v_bl, t_bl, v_non, t_non, v_cst, t_cst, v_fnv, t_fnv, v_tyv, t_tyv, v_bin, t_bin, v_un, t_un, v_tup, t_tup, v_lst, t_lst, v_sub, t_sub, v_slc, t_slc, v_call, t_call, v_callk, t_callk, v_blt, t_blt, v_mth, t_mth, v_comp, t_comp, v_rng, t_rng, v_enm, t_enm, v_zip, t_zip, kVb_eq, kQ2_eq, kQ1_eq, kH4_eq, kH3_eq, kH2_eq, kH1_eq, v_cmp, t_cmp, v_chn, t_chn, v_var, t_var, kN2_eq, kN1_eq, kNt_eq, v_not, t_not, kAn_eq, kAt_eq, v_and, t_and, kOn_eq, kOt_eq, v_or, t_or, kIv_eq, kIt_eq, v_ife, t_ife, v_seq, v_no, kOs2_eq, kOs1_eq, os_nil, os_cons, kF2_eq, kF1_eq, f_nil, f_cons, kG2_eq, kG1_eq, kG3_eq, g_nil, g_val, g_slot, kGt_eq, g_tmpc, o_var, kIe_eq, it_ev, p_no, kRt_eq, r_var, kV_eq, kPt_eq, o_int, r_int, p_int, o_str, r_str, p_str, o_bl, r_bl, p_bl, o_non, r_non, p_non, o_cst, r_cst, p_cst, o_fnv, r_fnv, p_fnv, o_tyv, r_tyv, p_tyv, o_bin, r_bin, p_bin, o_un, r_un, p_un, o_tup, r_tup, p_tup, o_lst, r_lst, p_lst, o_sub, r_sub, p_sub, o_slc, r_slc, p_slc, o_call, r_call, p_call, o_callk, r_callk, p_callk, o_blt, r_blt, p_blt, o_mth, r_mth, p_mth, o_comp, r_comp, p_comp, o_rng, r_rng, p_rng, o_enm, r_enm, p_enm, o_zip, r_zip, p_zip, o_cmp, r_cmp, p_cmp, o_chn, r_chn, p_chn, o_not, r_not, p_not, o_and, r_and, p_and, o_or, r_or, p_or, o_ife, r_ife, p_ife, p_var, kT3_eq, kT2_eq, evVar, tsVar, liftO, liftB, flOf, fzO, okIf, cmp2, rsO, rsOs, unP, truth, lstAt, argV, argVs, slotsOf, argBack, setP, itO, itemsP, setPar, isNonP, kindO, seqOf, ownFz, wipeE, unwipe, consO, enmP, zipP, List.all_cons, List.all_nil, Bool.and_true, Bool.true_and, Bool.and_self, Option.bind_some, Option.map_some, List.getElem?_cons_zero, List.getElem?_cons_succ, List.set_cons_zero, List.set_cons_succ, Option.isSome_some, if_true, if_false, ite_true, ite_false, decide_true, decide_false, Bool.not_true, Bool.not_false, reduceIte, Bool.false_eq_true, p0, q0, p1, q1, p2, q2, ne_ss, eq_ii, le_ii, sub_p, hg, h2', c1, c2', mod_p _ _ hp2, beq_self_eq_true, ul, sz0, sz1, sz2, sz3, sz4, sz5, sz6, sz7, sz8, sz9, sz10, sz11, sz12, sz13, sz14, sz15, sz16, sz17, sz18, sz19, sz20]
          rfl
      · rw [if_neg fun z => c1 z.1]
        unfold d_least_turn
        simp only [bd_ok, bd_exc, bd_bad, fo_ok, fo_exc, th_nx, th_ret, th_exc, th_brk, th_cnt, tk_nx, tk_cnt, tk_brk, tk_ret, tk_exc, x_nil, x_seq, kAsg_eq, x_asg, kUnp_eq, x_unp, kPar_eq, x_par, kSet2_eq, kSet1_eq, x_seti, kApp_eq, x_app, kExpr_eq, x_expr, x_ret, x_retN, kIf_eq, x_ife, kLoop_eq, x_loop, x_whl, kWh_eq, x_brk, x_cnt, x_pass, kCl2_eq, kCl1_eq, kTr_eq, kB2_eq, kB1_eq, kU_eq, kTup_eq, kLst_eq, kS2_eq, kS1_eq, kC3_eq, kC2_eq, kC1_eq, kCall_eq, kK2_eq, kK1_eq, kBl_eq, kM2_eq, kM1_eq, kCo_eq, kRg_eq, kEn_eq, kZ2_eq, kZ1_eq, v_int, t_int, v_str, t_str, v_bl, t_bl, v_non, t_non, v_cst, t_cst, v_fnv, t_fnv, v_tyv, t_tyv, v_bin, t_bin, v_un, t_un, v_tup, t_tup, v_lst, t_lst, v_sub, t_sub, v_slc, t_slc, v_call, t_call, v_callk, t_callk, v_blt, t_blt, v_mth, t_mth, v_comp, t_comp, v_rng, t_rng, v_enm, t_enm, v_zip, t_zip, kVb_eq, kQ2_eq, kQ1_eq, kH4_eq, kH3_eq, kH2_eq, kH1_eq, v_cmp, t_cmp, v_chn, t_chn, v_var, t_var, kN2_eq, kN1_eq, kNt_eq, v_not, t_not, kAn_eq, kAt_eq, v_and, t_and, kOn_eq, kOt_eq, v_or, t_or, kIv_eq, kIt_eq, v_ife, t_ife, v_seq, v_no, kOs2_eq, kOs1_eq, os_nil, os_cons, kF2_eq, kF1_eq, f_nil, f_cons, kG2_eq, kG1_eq, kG3_eq, g_nil, g_val, g_slot, kGt_eq, g_tmpc, o_var, kIe_eq, it_ev, p_no, kRt_eq, r_var, kV_eq, kPt_eq, o_int, r_int, p_int, o_str, r_str, p_str, o_bl, r_bl, p_bl, o_non, r_non, p_non, o_cst, r_cst, p_cst, o_fnv, r_fnv, p_fnv, o_tyv, r_tyv, p_tyv, o_bin, r_bin, p_bin, o_un, r_un, p_un, o_tup, r_tup, p_tup, o_lst, r_lst, p_lst, o_sub, r_sub, p_sub, o_slc, r_slc, p_slc, o_call, r_call, p_call, o_callk, r_callk, p_callk, o_blt, r_blt, p_blt, o_mth, r_mth, p_mth, o_comp, r_comp, p_comp, o_rng, r_rng, p_rng, o_enm, r_enm, p_enm, o_zip, r_zip, p_zip, o_cmp, r_cmp, p_cmp, o_chn, r_chn, p_chn, o_not, r_not, p_not, o_and, r_and, p_and, o_or, r_or, p_or, o_ife, r_ife, p_ife, p_var, kT3_eq, kT2_eq, evVar, tsVar, liftO, liftB, flOf, fzO, okIf, cmp2, rsO, rsOs, unP, truth, lstAt, argV, argVs, slotsOf, argBack, setP, itO, itemsP, setPar, isNonP, kindO, seqOf, ownFz, wipeE, unwipe, consO, enmP, zipP, List.all_cons, List.all_nil, Bool.and_true, Bool.true_and, Bool.and_self, Option.bind_some, Option.map_some, List.getElem?_cons_zero, List.getElem?_cons_succ, List.set_cons_zero, List.set_cons_succ, Option.isSome_some, if_true, if_false, ite_true, ite_false, decide_true, decide_false, Bool.not_true, Bool.not_false, reduceIte, Bool.false_eq_true, p0, q0, p1, q1, p2, q2, ne_ss, eq_ii, le_ii, sub_p, hg, h2', c1, mod_p _ _ hp2, beq_self_eq_true, ul, sz0, sz1, sz2, sz3, sz4, sz5, sz6, sz7, sz8, sz9, sz10, sz11, sz12, sz13, sz14, sz15, sz16, sz17, sz18, sz19, sz20]
        rfl
    · have h1' : (a1 == 0) = false := by simpa using h1
      rw [if_neg h1]
      have hd := hD.run a1 a2 l1 g1 hp2 g2
      have sg := hD.sig
      have gp := gcd_pos (a := a1) h2
      have gl : (Int.gcd a1 a2 : Int) < 1073741824 := by
        have := Int.le_of_dvd hp2 (Int.gcd_dvd_right a1 a2)
        omega
      by_cases c : g % (Int.gcd a1 a2 : Int) = 0
      · rw [if_pos c]
        obtain ⟨k, hk⟩ := Option.isSome_iff_exists.mp (hF h1 h2 c)
        rw [hk]
        have dl : 0 ≤ a2 / (Int.gcd a1 a2 : Int) ∧ a2 / (Int.gcd a1 a2 : Int) ≤ 4 := ⟨Int.ediv_nonneg l2 (by omega), Int.le_trans (Int.ediv_le_self _ l2) g2⟩
        have hr : rngP [.int (a2 / (Int.gcd a1 a2 : Int))] = some ((upTo (a2 / (Int.gcd a1 a2 : Int)).toNat).map PV.int) := by
          show (if -(2 ^ 62) ≤ a2 / (Int.gcd a1 a2 : Int) ∧ a2 / (Int.gcd a1 a2 : Int) < 2 ^ 62 then _ else _) = _
          rw [if_pos ⟨by omega, by omega⟩]
          have e : a2 / (Int.gcd a1 a2 : Int) = ((a2 / (Int.gcd a1 a2 : Int)).toNat : Int) := by omega
          rw [e, rng_up, Int.toNat_natCast]
        have hl := lt_loop (C := C) (p := p) (q := q) (r := .int (Int.gcd a1 a2 : Int)) (g := g) s1 hp2 (upTo (a2 / (Int.gcd a1 a2 : Int)).toNat)
        unfold ltC at hl
        have hlen : (((upTo (a2 / (Int.gcd a1 a2 : Int)).toNat).filter fun k => (a1 * k - g) % a2 == 0).map PV.int).length ≤ sizeLine := by
          rw [List.length_map]
          refine Nat.le_trans (List.length_filter_le _ _) ?_
          unfold upTo
          rw [List.length_map, List.length_range]
          have : sizeLine ≥ 4 := by decide +kernel
          omega
        have hh : atI (((upTo (a2 / (Int.gcd a1 a2 : Int)).toNat).filter fun k => (a1 * k - g) % a2 == 0).map PV.int) 0 = some (.int k) := by
          rw [at_0, List.head?_map, List.head?_filter]
          have hk' : (upTo (a2 / (Int.gcd a1 a2 : Int)).toNat).find? (fun k => (a1 * k - g) % a2 == 0) = some k := hk
          rw [hk']; rfl
        unfold d_least_turn
        simp only [bd_ok, bd_exc, bd_bad, fo_ok, fo_exc, th_nx, th_ret, th_exc, th_brk, th_cnt, tk_nx, tk_cnt, tk_brk, tk_ret, tk_exc, x_nil, x_seq, kAsg_eq, x_asg, kUnp_eq, x_unp, kPar_eq, x_par, kSet2_eq, kSet1_eq, x_seti, kApp_eq, x_app, kExpr_eq, x_expr, x_ret, x_retN, kIf_eq, x_ife, kLoop_eq, x_loop, x_whl, kWh_eq, x_brk, x_cnt, x_pass, kCl2_eq, kCl1_eq, kTr_eq, kB2_eq, kB1_eq, kU_eq, kTup_eq, kLst_eq, kS2_eq, kS1_eq, kC3_eq, kC2_eq, kC1_eq, kCall_eq, kK2_eq, kK1_eq, kBl_eq, kM2_eq, kM1_eq, kCo_eq, kRg_eq, kEn_eq, kZ2_eq, kZ1_eq, v_int, t_int, v_str, t_str, v_bl, t_bl, v_non, t_non, v_cst, t_cst, v_fnv, t_fnv, v_tyv, t_tyv, v_bin, t_bin, v_un, t_un, v_tup, t_tup, v_lst, t_lst, v_sub, t_sub, v_slc, t_slc, v_call, t_call, v_callk, t_callk, v_blt, t_blt, v_mth, t_mth, v_comp, t_comp, v_rng, t_rng, v_enm, t_enm, v_zip, t_zip, kVb_eq, kQ2_eq, kQ1_eq, kH4_eq, kH3_eq, kH2_eq, kH1_eq, v_cmp, t_cmp, v_chn, t_chn, v_var, t_var, kN2_eq, kN1_eq, kNt_eq, v_not, t_not, kAn_eq, kAt_eq, v_and, t_and, kOn_eq, kOt_eq, v_or, t_or, kIv_eq, kIt_eq, v_ife, t_ife, v_seq, v_no, kOs2_eq, kOs1_eq, os_nil, os_cons, kF2_eq, kF1_eq, f_nil, f_cons, kG2_eq, kG1_eq, kG3_eq, g_nil, g_val, g_slot, kGt_eq, g_tmpc, o_var, kIe_eq, it_ev, p_no, kRt_eq, r_var, kV_eq, kPt_eq, o_int, r_int, p_int, o_str, r_str, p_str, o_bl, r_bl, p_bl, o_non, r_non, p_non, o_cst, r_cst, p_cst, o_fnv, r_fnv, p_fnv, o_tyv, r_tyv, p_tyv, o_bin, r_bin, p_bin, o_un, r_un, p_un, o_tup, r_tup, p_tup, o_lst, r_lst, p_lst, o_sub, r_sub, p_sub, o_slc, r_slc, p_slc, o_call, r_call, p_call, o_callk, r_callk, p_callk, o_blt, r_blt, p_blt, o_mth, r_mth, p_mth, o_comp, r_comp, p_comp, o_rng, r_rng, p_rng, o_enm, r_enm, p_enm, o_zip, r_zip, p_zip, o_cmp, r_cmp, p_cmp, o_chn, r_chn, p_chn, o_not, r_not, p_not, o_and, r_and, p_and, o_or, r_or, p_or, o_ife, r_ife, p_ife, p_var, kT3_eq, kT2_eq, evVar, tsVar, liftO, liftB, flOf, fzO, okIf, cmp2, rsO, rsOs, unP, truth, lstAt, argV, argVs, slotsOf, argBack, setP, itO, itemsP, setPar, isNonP, kindO, seqOf, ownFz, wipeE, unwipe, consO, enmP, zipP, List.all_cons, List.all_nil, Bool.and_true, Bool.true_and, Bool.and_self, Option.bind_some, Option.map_some, List.getElem?_cons_zero, List.getElem?_cons_succ, List.set_cons_zero, List.set_cons_succ, Option.isSome_some, if_true, if_false, ite_true, ite_false, decide_true, decide_false, Bool.not_true, Bool.not_false, reduceIte, Bool.false_eq_true, p0, q0, p1, q1, p2, q2, ne_ss, ne_ii, eq_ii, sub_p, hg, h1', h2', sg, hd, doCall, nd0, mod_p _ _ gp, div_p _ _ gp gl, c, hr, hl, compEnd, hlen, ix_lst, hh, beq_self_eq_true, ul, sz0, sz1, sz2, sz3, sz4, sz5, sz6, sz7, sz8, sz9, sz10, sz11, sz12, sz13, sz14, sz15, sz16, sz17, sz18, sz19, sz20]
        rfl
      · have c' : (g % (Int.gcd a1 a2 : Int) == 0) = false := by simpa using c
        rw [if_neg c]
        unfold d_least_turn
        simp only [bd_ok, bd_exc, bd_bad, fo_ok, fo_exc, th_nx, th_ret, th_exc, th_brk, th_cnt, tk_nx, tk_cnt, tk_brk, tk_ret, tk_exc, x_nil, x_seq, kAsg_eq, x_asg, kUnp_eq, x_unp, kPar_eq, x_par, kSet2_eq, kSet1_eq, x_seti, kApp_eq, x_app, kExpr_eq, x_expr, x_ret, x_retN, kIf_eq, x_ife, kLoop_eq, x_loop, x_whl, kWh_eq, x_brk, x_cnt, x_pass, kCl2_eq, kCl1_eq, kTr_eq, kB2_eq, kB1_eq, kU_eq, kTup_eq, kLst_eq, kS2_eq, kS1_eq, kC3_eq, kC2_eq, kC1_eq, kCall_eq, kK2_eq, kK1_eq, kBl_eq, kM2_eq, kM1_eq, kCo_eq, kRg_eq, kEn_eq, kZ2_eq, kZ1_eq, v_int, t_int, v_str, t_str, v_bl, t_bl, v_non, t_non, v_cst, t_cst, v_fnv, t_fnv, v_tyv, t_tyv, v_bin, t_bin, v_un, t_un, v_tup, t_tup, v_lst, t_lst, v_sub, t_sub, v_slc, t_slc, v_call, t_call, v_callk, t_callk, v_blt, t_blt, v_mth, t_mth, v_comp, t_comp, v_rng, t_rng, v_enm, t_enm, v_zip, t_zip, kVb_eq, kQ2_eq, kQ1_eq, kH4_eq, kH3_eq, kH2_eq, kH1_eq, v_cmp, t_cmp, v_chn, t_chn, v_var, t_var, kN2_eq, kN1_eq, kNt_eq, v_not, t_not, kAn_eq, kAt_eq, v_and, t_and, kOn_eq, kOt_eq, v_or, t_or, kIv_eq, kIt_eq, v_ife, t_ife, v_seq, v_no, kOs2_eq, kOs1_eq, os_nil, os_cons, kF2_eq, kF1_eq, f_nil, f_cons, kG2_eq, kG1_eq, kG3_eq, g_nil, g_val, g_slot, kGt_eq, g_tmpc, o_var, kIe_eq, it_ev, p_no, kRt_eq, r_var, kV_eq, kPt_eq, o_int, r_int, p_int, o_str, r_str, p_str, o_bl, r_bl, p_bl, o_non, r_non, p_non, o_cst, r_cst, p_cst, o_fnv, r_fnv, p_fnv, o_tyv, r_tyv, p_tyv, o_bin, r_bin, p_bin, o_un, r_un, p_un, o_tup, r_tup, p_tup, o_lst, r_lst, p_lst, o_sub, r_sub, p_sub, o_slc, r_slc, p_slc, o_call, r_call, p_call, o_callk, r_callk, p_callk, o_blt, r_blt, p_blt, o_mth, r_mth, p_mth, o_comp, r_comp, p_comp, o_rng, r_rng, p_rng, o_enm, r_enm, p_enm, o_zip, r_zip, p_zip, o_cmp, r_cmp, p_cmp, o_chn, r_chn, p_chn, o_not, r_not, p_not, o_and, r_and, p_and, o_or, r_or, p_or, o_ife, r_ife, p_ife, p_var, kT3_eq, kT2_eq, evVar, tsVar, liftO, liftB, flOf, fzO, okIf, cmp2, rsO, rsOs, unP, truth, lstAt, argV, argVs, slotsOf, argBack, setP, itO, itemsP, setPar, isNonP, kindO, seqOf, ownFz, wipeE, unwipe, consO, enmP, zipP, List.all_cons, List.all_nil, Bool.and_true, Bool.true_and, Bool.and_self, Option.bind_some, Option.map_some, List.getElem?_cons_zero, List.getElem?_cons_succ, List.set_cons_zero, List.set_cons_succ, Option.isSome_some, if_true, if_false, ite_true, ite_false, decide_true, decide_false, Bool.not_true, Bool.not_false, reduceIte, Bool.false_eq_true, p0, q0, p1, q1, p2, q2, ne_ss, ne_ii, eq_ii, sub_p, hg, h1', h2', sg, hd, doCall, nd0, mod_p _ _ gp, c', beq_self_eq_true, ul, sz0, sz1, sz2, sz3, sz4, sz5, sz6, sz7, sz8, sz9, sz10, sz11, sz12, sz13, sz14, sz15, sz16, sz17, sz18, sz19, sz20]
        rfl
def stp (a1 a2 : Int) : Int := if a2 / (Int.gcd a1 a2 : Int) > 1 then a2 / (Int.gcd a1 a2 : Int) else 1
def lvl (a1 b1 a2 b2 k : Int) : Int × Int :=
  if a1 * k + b1 - b2 < 0 ∧ 0 < a1 then (k - (a1 * k + b1 - b2) / (a1 * stp a1 a2) * stp a1 a2, (a1 * (k - (a1 * k + b1 - b2) / (a1 * stp a1 a2) * stp a1 a2) + b1 - b2) / a2)
  else (k, (a1 * k + b1 - b2) / a2)
structure CellOk (C : Cal) : Prop where
  sig : C.sig "cell_at" = some [false, false]
  run : ∀ (p : PV) (t : Str) (a b k : Int), Pl p t a b → smallI a = true → C.run "cell_at" [p, .int k] = .ok (.int (a * k + b), .fz) []
theorem cell_run {C : Cal} {p : PV} {t : Str} {a b k : Int} (hp : Pl p t a b) (s1 : smallI a = true) : runF C (some d_cell_at) [p, .int k] = .ok (.int (a * k + b), .fz) [] := by
  show finish [false, false] (exec C d_cell_at.body [some (p, .fz), some (.int k, .fz)]) = _
  have p1 := hp.i1
  have p2 := hp.i2
  unfold d_cell_at
  simp only [bd_ok, bd_exc, bd_bad, fo_ok, fo_exc, th_nx, th_ret, th_exc, th_brk, th_cnt, tk_nx, tk_cnt, tk_brk, tk_ret, tk_exc, x_nil, x_seq, kAsg_eq, x_asg, kUnp_eq, x_unp, kPar_eq, x_par, kSet2_eq, kSet1_eq, x_seti, kApp_eq, x_app, kExpr_eq, x_expr, x_ret, x_retN, kIf_eq, x_ife, kLoop_eq, x_loop, x_whl, kWh_eq, x_brk, x_cnt, x_pass, kCl2_eq, kCl1_eq, kTr_eq, kB2_eq, kB1_eq, kU_eq, kTup_eq, kLst_eq, kS2_eq, kS1_eq, kC3_eq, kC2_eq, kC1_eq, kCall_eq, kK2_eq, kK1_eq, kBl_eq, kM2_eq, kM1_eq, kCo_eq, kRg_eq, kEn_eq, kZ2_eq, kZ1_eq, v_int, t_int, v_str, t_str, v_bl, t_bl, v_non, t_non, v_cst, t_cst, v_fnv, t_fnv, v_tyv, t_tyv, v_bin, t_bin, v_un, t_un, v_tup, t_tup, v_lst, t_lst, v_sub, t_sub, v_slc, t_slc, v_call, t_call, v_callk, t_callk, v_blt, t_blt, v_mth, t_mth, v_comp, t_comp, v_rng, t_rng, v_enm, t_enm, v_zip, t_zip, kVb_eq, kQ2_eq, kQ1_eq, kH4_eq, kH3_eq, kH2_eq, kH1_eq, v_cmp, t_cmp, v_chn, t_chn, v_var, t_var, kN2_eq, kN1_eq, kNt_eq, v_not, t_not, kAn_eq, kAt_eq, v_and, t_and, kOn_eq, kOt_eq, v_or, t_or, kIv_eq, kIt_eq, v_ife, t_ife, v_seq, v_no, kOs2_eq, kOs1_eq, os_nil, os_cons, kF2_eq, kF1_eq, f_nil, f_cons, kG2_eq, kG1_eq, kG3_eq, g_nil, g_val, g_slot, kGt_eq, g_tmpc, o_var, kIe_eq, it_ev, p_no, kRt_eq, r_var, kV_eq, kPt_eq, o_int, r_int, p_int, o_str, r_str, p_str, o_bl, r_bl, p_bl, o_non, r_non, p_non, o_cst, r_cst, p_cst, o_fnv, r_fnv, p_fnv, o_tyv, r_tyv, p_tyv, o_bin, r_bin, p_bin, o_un, r_un, p_un, o_tup, r_tup, p_tup, o_lst, r_lst, p_lst, o_sub, r_sub, p_sub, o_slc, r_slc, p_slc, o_call, r_call, p_call, o_callk, r_callk, p_callk, o_blt, r_blt, p_blt, o_mth, r_mth, p_mth, o_comp, r_comp, p_comp, o_rng, r_rng, p_rng, o_enm, r_enm, p_enm, o_zip, r_zip, p_zip, o_cmp, r_cmp, p_cmp, o_chn, r_chn, p_chn, o_not, r_not, p_not, o_and, r_and, p_and, o_or, r_or, p_or, o_ife, r_ife, p_ife, p_var, kT3_eq, kT2_eq, evVar, tsVar, liftO, liftB, flOf, fzO, okIf, cmp2, rsO, rsOs, unP, truth, lstAt, argV, argVs, slotsOf, argBack, setP, itO, itemsP, setPar, isNonP, kindO, seqOf, ownFz, wipeE, unwipe, consO, enmP, zipP, List.all_cons, List.all_nil, Bool.and_true, Bool.true_and, Bool.and_self, Option.bind_some, Option.map_some, List.getElem?_cons_zero, List.getElem?_cons_succ, List.set_cons_zero, List.set_cons_succ, Option.isSome_some, if_true, if_false, ite_true, ite_false, decide_true, decide_false, Bool.not_true, Bool.not_false, reduceIte, Bool.false_eq_true, p1, p2, mul_l _ _ s1, add_p, sz0, sz1, sz2, sz3, sz4, sz5, sz6, sz7, sz8, sz9, sz10, sz11, sz12, sz13, sz14, sz15, sz16, sz17, sz18, sz19, sz20]
  rfl
theorem blt_max (i j : Int) : bltP .max [.int i, .int j] = some (.int (if j > i then j else i)) := rfl
theorem level_run {C : Cal} (hD : DivOk C) (hC : CellOk C) {p q : PV} {t u : Str} {a1 b1 a2 b2 k : Int} (hp : Pl p t a1 b1) (hq : Pl q u a2 b2) (l1 : 0 ≤ a1) (g1 : a1 ≤ 4) (l2 : 0 < a2) (g2 : a2 ≤ 4) :
    runF C (some d_level_with) [p, q, .int k] = .ok (oP (some (lvl a1 b1 a2 b2 k)), .fz) [] := by
  show finish [false, false, false] (exec C d_level_with.body [some (p, .fz), some (q, .fz), some (.int k, .fz), none, none]) = _
  have p1 := hp.i1
  have q1 := hq.i1
  have q2 := hq.i2
  have s1 : smallI a1 = true := small_of (by omega) (by omega)
  have sgD := hD.sig
  have sgC := hC.sig
  have hd := hD.run a1 a2 l1 g1 l2 g2
  have hc := fun k => hC.run p t a1 b1 k hp s1
  have gp := gcd_pos (a := a1) (Int.ne_of_gt l2)
  have gl : (Int.gcd a1 a2 : Int) < 1073741824 := by
    have := Int.le_of_dvd l2 (Int.gcd_dvd_right a1 a2)
    omega
  have dl : 0 ≤ a2 / (Int.gcd a1 a2 : Int) ∧ a2 / (Int.gcd a1 a2 : Int) ≤ 4 := ⟨Int.ediv_nonneg (by omega) (by omega), Int.le_trans (Int.ediv_le_self _ (by omega)) g2⟩
  have mx : ∀ x : Int, x = a2 / (Int.gcd a1 a2 : Int) → (if x > 1 then x else 1) = stp a1 a2 := fun x hx => by rw [hx]; rfl
  have st : 1 ≤ stp a1 a2 ∧ stp a1 a2 ≤ 4 := by unfold stp; split <;> omega
  have s2 : smallI (stp a1 a2) = true := small_of (by omega) (by omega)
  have hl2 : a2 < 1073741824 := by omega
  unfold d_level_with lvl
  by_cases c1 : a1 * k + b1 - b2 < 0
  · by_cases c2 : 0 < a1
    · rw [if_pos ⟨c1, c2⟩]
      have mp : 0 < a1 * stp a1 a2 := Int.mul_pos c2 (by omega)
      have ml : a1 * stp a1 a2 < 1073741824 := by
        have : a1 * stp a1 a2 ≤ 4 * 4 := Int.mul_le_mul g1 st.2 (by omega) (by omega)
        omega
      simp only [bd_ok, bd_exc, bd_bad, fo_ok, fo_exc, th_nx, th_ret, th_exc, th_brk, th_cnt, tk_nx, tk_cnt, tk_brk, tk_ret, tk_exc, x_nil, x_seq, kAsg_eq, x_asg, kUnp_eq, x_unp, kPar_eq, x_par, kSet2_eq, kSet1_eq, x_seti, kApp_eq, x_app, kExpr_eq, x_expr, x_ret, x_retN, kIf_eq, x_ife, kLoop_eq, x_loop, x_whl, kWh_eq, x_brk, x_cnt, x_pass, kCl2_eq, kCl1_eq, kTr_eq, kB2_eq, kB1_eq, kU_eq, kTup_eq, kLst_eq, kS2_eq, kS1_eq, kC3_eq, kC2_eq, kC1_eq, kCall_eq, kK2_eq, kK1_eq, kBl_eq, kM2_eq, kM1_eq, kCo_eq, kRg_eq, kEn_eq, kZ2_eq, kZ1_eq, v_int, t_int, v_str, t_str, v_bl, t_bl, v_non, t_non, v_cst, t_cst, v_fnv, t_fnv, v_tyv, t_tyv, v_bin, t_bin, v_un, t_un, v_tup, t_tup, v_lst, t_lst, v_sub, t_sub, v_slc, t_slc, v_call, t_call, v_callk, t_callk, v_blt, t_blt, v_mth, t_mth, v_comp, t_comp, v_rng, t_rng, v_enm, t_enm, v_zip, t_zip, kVb_eq, kQ2_eq, kQ1_eq, kH4_eq, kH3_eq, kH2_eq, kH1_eq, v_cmp, t_cmp, v_chn, t_chn, v_var, t_var, kN2_eq, kN1_eq, kNt_eq, v_not, t_not, kAn_eq, kAt_eq, v_and, t_and, kOn_eq, kOt_eq, v_or, t_or, kIv_eq, kIt_eq, v_ife, t_ife, v_seq, v_no, kOs2_eq, kOs1_eq, os_nil, os_cons, kF2_eq, kF1_eq, f_nil, f_cons, kG2_eq, kG1_eq, kG3_eq, g_nil, g_val, g_slot, kGt_eq, g_tmpc, o_var, kIe_eq, it_ev, p_no, kRt_eq, r_var, kV_eq, kPt_eq, o_int, r_int, p_int, o_str, r_str, p_str, o_bl, r_bl, p_bl, o_non, r_non, p_non, o_cst, r_cst, p_cst, o_fnv, r_fnv, p_fnv, o_tyv, r_tyv, p_tyv, o_bin, r_bin, p_bin, o_un, r_un, p_un, o_tup, r_tup, p_tup, o_lst, r_lst, p_lst, o_sub, r_sub, p_sub, o_slc, r_slc, p_slc, o_call, r_call, p_call, o_callk, r_callk, p_callk, o_blt, r_blt, p_blt, o_mth, r_mth, p_mth, o_comp, r_comp, p_comp, o_rng, r_rng, p_rng, o_enm, r_enm, p_enm, o_zip, r_zip, p_zip, o_cmp, r_cmp, p_cmp, o_chn, r_chn, p_chn, o_not, r_not, p_not, o_and, r_and, p_and, o_or, r_or, p_or, o_ife, r_ife, p_ife, p_var, kT3_eq, kT2_eq, evVar, tsVar, liftO, liftB, flOf, fzO, okIf, cmp2, rsO, rsOs, unP, truth, lstAt, argV, argVs, slotsOf, argBack, setP, itO, itemsP, setPar, isNonP, kindO, seqOf, ownFz, wipeE, unwipe, consO, enmP, zipP, List.all_cons, List.all_nil, Bool.and_true, Bool.true_and, Bool.and_self, Option.bind_some, Option.map_some, List.getElem?_cons_zero, List.getElem?_cons_succ, List.set_cons_zero, List.set_cons_succ, Option.isSome_some, if_true, if_false, ite_true, ite_false, decide_true, decide_false, Bool.not_true, Bool.not_false, reduceIte, Bool.false_eq_true, p1, q1, q2, sgD, sgC, hd, hc, doCall, nd0, div_p _ _ gp gl, blt_max, mx _ rfl, sub_p, lt_ii, gt_ii, c1, c2, mul_l _ _ s1, mul_r _ _ s2, div_p _ _ mp ml, div_p _ _ l2 hl2, sz0, sz1, sz2, sz3, sz4, sz5, sz6, sz7, sz8, sz9, sz10, sz11, sz12, sz13, sz14, sz15, sz16, sz17, sz18, sz19, sz20]
      rfl
    · rw [if_neg fun z => c2 z.2]
      simp only [bd_ok, bd_exc, bd_bad, fo_ok, fo_exc, th_nx, th_ret, th_exc, th_brk, th_cnt, tk_nx, tk_cnt, tk_brk, tk_ret, tk_exc, x_nil, x_seq, kAsg_eq, x_asg, kUnp_eq, x_unp, kPar_eq, x_par, kSet2_eq, kSet1_eq, x_seti, kApp_eq, x_app, kExpr_eq, x_expr, x_ret, x_retN, kIf_eq, x_ife, kLoop_eq, x_loop, x_whl, kWh_eq, x_brk, x_cnt, x_pass, kCl2_eq, kCl1_eq, kTr_eq, kB2_eq, kB1_eq, kU_eq, kTup_eq, kLst_eq, kS2_eq, kS1_eq, kC3_eq, kC2_eq, kC1_eq, kCall_eq, kK2_eq, kK1_eq, kBl_eq, kM2_eq, kM1_eq, kCo_eq, kRg_eq, kEn_eq, kZ2_eq, kZ1_eq, v_int, t_int, v_str, t_str, v_bl, t_bl, v_non, t_non, v_cst, t_cst, v_fnv, t_fnv, v_tyv, t_tyv, v_bin, t_bin, v_un, t_un, v_tup, t_tup, v_lst, t_lst, v_sub, t_sub, v_slc, t_slc, v_call, t_call, v_callk, t_callk, v_blt, t_blt, v_mth, t_mth, v_comp, t_comp, v_rng, t_rng, v_enm, t_enm, v_zip, t_zip, kVb_eq, kQ2_eq, kQ1_eq, kH4_eq, kH3_eq, kH2_eq, kH1_eq, v_cmp, t_cmp, v_chn, t_chn, v_var, t_var, kN2_eq, kN1_eq, kNt_eq, v_not, t_not, kAn_eq, kAt_eq, v_and, t_and, kOn_eq, kOt_eq, v_or, t_or, kIv_eq, kIt_eq, v_ife, t_ife, v_seq, v_no, kOs2_eq, kOs1_eq, os_nil, os_cons, kF2_eq, kF1_eq, f_nil, f_cons, kG2_eq, kG1_eq, kG3_eq, g_nil, g_val, g_slot, kGt_eq, g_tmpc, o_var, kIe_eq, it_ev, p_no, kRt_eq, r_var, kV_eq, kPt_eq, o_int, r_int, p_int, o_str, r_str, p_str, o_bl, r_bl, p_bl, o_non, r_non, p_non, o_cst, r_cst, p_cst, o_fnv, r_fnv, p_fnv, o_tyv, r_tyv, p_tyv, o_bin, r_bin, p_bin, o_un, r_un, p_un, o_tup, r_tup, p_tup, o_lst, r_lst, p_lst, o_sub, r_sub, p_sub, o_slc, r_slc, p_slc, o_call, r_call, p_call, o_callk, r_callk, p_callk, o_blt, r_blt, p_blt, o_mth, r_mth, p_mth, o_comp, r_comp, p_comp, o_rng, r_rng, p_rng, o_enm, r_enm, p_enm, o_zip, r_zip, p_zip, o_cmp, r_cmp, p_cmp, o_chn, r_chn, p_chn, o_not, r_not, p_not, o_and, r_and, p_and, o_or, r_or, p_or, o_ife, r_ife, p_ife, p_var, kT3_eq, kT2_eq, evVar, tsVar, liftO, liftB, flOf, fzO, okIf, cmp2, rsO, rsOs, unP, truth, lstAt, argV, argVs, slotsOf, argBack, setP, itO, itemsP, setPar, isNonP, kindO, seqOf, ownFz, wipeE, unwipe, consO, enmP, zipP, List.all_cons, List.all_nil, Bool.and_true, Bool.true_and, Bool.and_self, Option.bind_some, Option.map_some, List.getElem?_cons_zero, List.getElem?_cons_succ, List.set_cons_zero, List.set_cons_succ, Option.isSome_some, if_true, if_false, ite_true, ite_false, decide_true, decide_false, Bool.not_true, Bool.not_false, reduceIte, Bool.false_eq_true, p1, q1, q2, sgD, sgC, hd, hc, doCall, nd0, div_p _ _ gp gl, blt_max, mx _ rfl, sub_p, lt_ii, gt_ii, c1, c2, div_p _ _ l2 hl2, sz0, sz1, sz2, sz3, sz4, sz5, sz6, sz7, sz8, sz9, sz10, sz11, sz12, sz13, sz14, sz15, sz16, sz17, sz18, sz19, sz20]
      rfl
  · rw [if_neg fun z => c1 z.1]
    simp only [bd_ok, bd_exc, bd_bad, fo_ok, fo_exc, th_nx, th_ret, th_exc, th_brk, th_cnt, tk_nx, tk_cnt, tk_brk, tk_ret, tk_exc, x_nil, x_seq, kAsg_eq, x_asg, kUnp_eq, x_unp, kPar_eq, x_par, kSet2_eq, kSet1_eq, x_seti, kApp_eq, x_app, kExpr_eq, x_expr, x_ret, x_retN, kIf_eq, x_ife, kLoop_eq, x_loop, x_whl, kWh_eq, x_brk, x_cnt, x_pass, kCl2_eq, kCl1_eq, kTr_eq, kB2_eq, kB1_eq, kU_eq, kTup_eq, kLst_eq, kS2_eq, kS1_eq, kC3_eq, kC2_eq, kC1_eq, kCall_eq, kK2_eq, kK1_eq, kBl_eq, kM2_eq, kM1_eq, kCo_eq, kRg_eq, kEn_eq, kZ2_eq, kZ1_eq, v_int, t_int, v_str, t_str, v_bl, t_bl, v_non, t_non, v_cst, t_cst, v_fnv, t_fnv, v_tyv, t_tyv, v_bin, t_bin, v_un, t_un, v_tup, t_tup, v_lst, t_lst, v_sub, t_sub, v_slc, t_slc, v_call, t_call, v_callk, t_callk, v_blt, t_blt, v_mth, t_mth, v_comp, t_comp, v_rng, t_rng, v_enm, t_enm, v_zip, t_zip, kVb_eq, kQ2_eq, kQ1_eq, kH4_eq, kH3_eq, kH2_eq, kH1_eq, v_cmp, t_cmp, v_chn, t_chn, v_var, t_var, kN2_eq, kN1_eq, kNt_eq, v_not, t_not, kAn_eq, kAt_eq, v_and, t_and, kOn_eq, kOt_eq, v_or, t_or, kIv_eq, kIt_eq, v_ife, t_ife, v_seq, v_no, kOs2_eq, kOs1_eq, os_nil, os_cons, kF2_eq, kF1_eq, f_nil, f_cons, kG2_eq, kG1_eq, kG3_eq, g_nil, g_val, g_slot, kGt_eq, g_tmpc, o_var, kIe_eq, it_ev, p_no, kRt_eq, r_var, kV_eq, kPt_eq, o_int, r_int, p_int, o_str, r_str, p_str, o_bl, r_bl, p_bl, o_non, r_non, p_non, o_cst, r_cst, p_cst, o_fnv, r_fnv, p_fnv, o_tyv, r_tyv, p_tyv, o_bin, r_bin, p_bin, o_un, r_un, p_un, o_tup, r_tup, p_tup, o_lst, r_lst, p_lst, o_sub, r_sub, p_sub, o_slc, r_slc, p_slc, o_call, r_call, p_call, o_callk, r_callk, p_callk, o_blt, r_blt, p_blt, o_mth, r_mth, p_mth, o_comp, r_comp, p_comp, o_rng, r_rng, p_rng, o_enm, r_enm, p_enm, o_zip, r_zip, p_zip, o_cmp, r_cmp, p_cmp, o_chn, r_chn, p_chn, o_not, r_not, p_not, o_and, r_and, p_and, o_or, r_or, p_or, o_ife, r_ife, p_ife, p_var, kT3_eq, kT2_eq, evVar, tsVar, liftO, liftB, flOf, fzO, okIf, cmp2, rsO, rsOs, unP, truth, lstAt, argV, argVs, slotsOf, argBack, setP, itO, itemsP, setPar, isNonP, kindO, seqOf, ownFz, wipeE, unwipe, consO, enmP, zipP, List.all_cons, List.all_nil, Bool.and_true, Bool.true_and, Bool.and_self, Option.bind_some, Option.map_some, List.getElem?_cons_zero, List.getElem?_cons_succ, List.set_cons_zero, List.set_cons_succ, Option.isSome_some, if_true, if_false, ite_true, ite_false, decide_true, decide_false, Bool.not_true, Bool.not_false, reduceIte, Bool.false_eq_true, p1, q1, q2, sgD, sgC, hd, hc, doCall, nd0, div_p _ _ gp gl, blt_max, mx _ rfl, sub_p, lt_ii, gt_ii, c1, div_p _ _ l2 hl2, sz0, sz1, sz2, sz3, sz4, sz5, sz6, sz7, sz8, sz9, sz10, sz11, sz12, sz13, sz14, sz15, sz16, sz17, sz18, sz19, sz20]
    rfl
/-- the numbers that are asked of -/
structure In (a b : Int) : Prop where
  a0 : 0 ≤ a
  a4 : a ≤ 4
  b0 : 0 ≤ b
  b40 : b ≤ 40
def AllFound : Prop := ∀ a1 b1 a2 b2 : Int, In a1 b1 → In a2 b2 → Found a1 a2 (b2 - b1)
structure LeastOk (C : Cal) : Prop where
  sig : C.sig "least_turn" = some [false, false]
  run : ∀ (p q : PV) (t u : Str) (a1 b1 a2 b2 : Int), Pl p t a1 b1 → Pl q u a2 b2 → In a1 b1 → In a2 b2 → C.run "least_turn" [p, q] = .ok (oI (leastV t u a1 b1 a2 b2), .fz) []
structure LevelOk (C : Cal) : Prop where
  sig : C.sig "level_with" = some [false, false, false]
  run : ∀ (p q : PV) (t u : Str) (a1 b1 a2 b2 k : Int), Pl p t a1 b1 → Pl q u a2 b2 → In a1 b1 → In a2 b2 → 0 < a2 → C.run "level_with" [p, q, .int k] = .ok (oP (some (lvl a1 b1 a2 b2 k)), .fz) []
def touchV (t u : Str) (a1 b1 a2 b2 : Int) : Option (Int × Int) := match leastV t u a1 b1 a2 b2 with
  | none => none
  | some k => if a2 = 0 then some (k, 0) else some (lvl a1 b1 a2 b2 k)
theorem touch_run {C : Cal} (hL : LeastOk C) (hV : LevelOk C) {p q : PV} {t u : Str} {a1 b1 a2 b2 : Int} (hp : Pl p t a1 b1) (hq : Pl q u a2 b2) (i1 : In a1 b1) (i2 : In a2 b2) :
    runF C (some d_first_touch) [p, q] = .ok (oP (touchV t u a1 b1 a2 b2), .fz) [] := by
  show finish [false, false] (exec C d_first_touch.body [some (p, .fz), some (q, .fz), none]) = _
  have q1 := hq.i1
  have sgL := hL.sig
  have sgV := hV.sig
  have hl := hL.run p q t u a1 b1 a2 b2 hp hq i1 i2
  unfold touchV d_first_touch
  cases o : leastV t u a1 b1 a2 b2 with
  | none =>
    rw [o] at hl
    have hl' : C.run "least_turn" [p, q] = .ok (.non, .fz) [] := hl
    simp only [bd_ok, bd_exc, bd_bad, fo_ok, fo_exc, th_nx, th_ret, th_exc, th_brk, th_cnt, tk_nx, tk_cnt, tk_brk, tk_ret, tk_exc, x_nil, x_seq, kAsg_eq, x_asg, kUnp_eq, x_unp, kPar_eq, x_par, kSet2_eq, kSet1_eq, x_seti, kApp_eq, x_app, kExpr_eq, x_expr, x_ret, x_retN, kIf_eq, x_ife, kLoop_eq, x_loop, x_whl, kWh_eq, x_brk, x_cnt, x_pass, kCl2_eq, kCl1_eq, kTr_eq, kB2_eq, kB1_eq, kU_eq, kTup_eq, kLst_eq, kS2_eq, kS1_eq, kC3_eq, kC2_eq, kC1_eq, kCall_eq, kK2_eq, kK1_eq, kBl_eq, kM2_eq, kM1_eq, kCo_eq, kRg_eq, kEn_eq, kZ2_eq, kZ1_eq, v_int, t_int, v_str, t_str, v_bl, t_bl, v_non, t_non, v_cst, t_cst, v_fnv, t_fnv, v_tyv, t_tyv, v_bin, t_bin, v_un, t_un, v_tup, t_tup, v_lst, t_lst, v_sub, t_sub, v_slc, t_slc, v_call, t_call, v_callk, t_callk, v_blt, t_blt, v_mth, t_mth, v_comp, t_comp, v_rng, t_rng, v_enm, t_enm, v_zip, t_zip, kVb_eq, kQ2_eq, kQ1_eq, kH4_eq, kH3_eq, kH2_eq, kH1_eq, v_cmp, t_cmp, v_chn, t_chn, v_var, t_var, kN2_eq, kN1_eq, kNt_eq, v_not, t_not, kAn_eq, kAt_eq, v_and, t_and, kOn_eq, kOt_eq, v_or, t_or, kIv_eq, kIt_eq, v_ife, t_ife, v_seq, v_no, kOs2_eq, kOs1_eq, os_nil, os_cons, kF2_eq, kF1_eq, f_nil, f_cons, kG2_eq, kG1_eq, kG3_eq, g_nil, g_val, g_slot, kGt_eq, g_tmpc, o_var, kIe_eq, it_ev, p_no, kRt_eq, r_var, kV_eq, kPt_eq, o_int, r_int, p_int, o_str, r_str, p_str, o_bl, r_bl, p_bl, o_non, r_non, p_non, o_cst, r_cst, p_cst, o_fnv, r_fnv, p_fnv, o_tyv, r_tyv, p_tyv, o_bin, r_bin, p_bin, o_un, r_un, p_un, o_tup, r_tup, p_tup, o_lst, r_lst, p_lst, o_sub, r_sub, p_sub, o_slc, r_slc, p_slc, o_call, r_call, p_call, o_callk, r_callk, p_callk, o_blt, r_blt, p_blt, o_mth, r_mth, p_mth, o_comp, r_comp, p_comp, o_rng, r_rng, p_rng, o_enm, r_enm, p_enm, o_zip, r_zip, p_zip, o_cmp, r_cmp, p_cmp, o_chn, r_chn, p_chn, o_not, r_not, p_not, o_and, r_and, p_and, o_or, r_or, p_or, o_ife, r_ife, p_ife, p_var, kT3_eq, kT2_eq, evVar, tsVar, liftO, liftB, flOf, fzO, okIf, cmp2, rsO, rsOs, unP, truth, lstAt, argV, argVs, slotsOf, argBack, setP, itO, itemsP, setPar, isNonP, kindO, seqOf, ownFz, wipeE, unwipe, consO, enmP, zipP, List.all_cons, List.all_nil, Bool.and_true, Bool.true_and, Bool.and_self, Option.bind_some, Option.map_some, List.getElem?_cons_zero, List.getElem?_cons_succ, List.set_cons_zero, List.set_cons_succ, Option.isSome_some, if_true, if_false, ite_true, ite_false, decide_true, decide_false, Bool.not_true, Bool.not_false, reduceIte, Bool.false_eq_true, q1, sgL, sgV, hl', doCall, nd0, isN_n, sz0, sz1, sz2, sz3, sz4, sz5, sz6, sz7, sz8, sz9, sz10, sz11, sz12, sz13, sz14, sz15, sz16, sz17, sz18, sz19, sz20]
    rfl
  | some k =>
    rw [o] at hl
    have hl' : C.run "least_turn" [p, q] = .ok (.int k, .fz) [] := hl
    by_cases h : a2 = 0
    · subst h
      simp only [bd_ok, bd_exc, bd_bad, fo_ok, fo_exc, th_nx, th_ret, th_exc, th_brk, th_cnt, tk_nx, tk_cnt, tk_brk, tk_ret, tk_exc, x_nil, x_seq, kAsg_eq, x_asg, kUnp_eq, x_unp, kPar_eq, x_par, kSet2_eq, kSet1_eq, x_seti, kApp_eq, x_app, kExpr_eq, x_expr, x_ret, x_retN, kIf_eq, x_ife, kLoop_eq, x_loop, x_whl, kWh_eq, x_brk, x_cnt, x_pass, kCl2_eq, kCl1_eq, kTr_eq, kB2_eq, kB1_eq, kU_eq, kTup_eq, kLst_eq, kS2_eq, kS1_eq, kC3_eq, kC2_eq, kC1_eq, kCall_eq, kK2_eq, kK1_eq, kBl_eq, kM2_eq, kM1_eq, kCo_eq, kRg_eq, kEn_eq, kZ2_eq, kZ1_eq, v_int, t_int, v_str, t_str, v_bl, t_bl, v_non, t_non, v_cst, t_cst, v_fnv, t_fnv, v_tyv, t_tyv, v_bin, t_bin, v_un, t_un, v_tup, t_tup, v_lst, t_lst, v_sub, t_sub, v_slc, t_slc, v_call, t_call, v_callk, t_callk, v_blt, t_blt, v_mth, t_mth, v_comp, t_comp, v_rng, t_rng, v_enm, t_enm, v_zip, t_zip, kVb_eq, kQ2_eq, kQ1_eq, kH4_eq, kH3_eq, kH2_eq, kH1_eq, v_cmp, t_cmp, v_chn, t_chn, v_var, t_var, kN2_eq, kN1_eq, kNt_eq, v_not, t_not, kAn_eq, kAt_eq, v_and, t_and, kOn_eq, kOt_eq, v_or, t_or, kIv_eq, kIt_eq, v_ife, t_ife, v_seq, v_no, kOs2_eq, kOs1_eq, os_nil, os_cons, kF2_eq, kF1_eq, f_nil, f_cons, kG2_eq, kG1_eq, kG3_eq, g_nil, g_val, g_slot, kGt_eq, g_tmpc, o_var, kIe_eq, it_ev, p_no, kRt_eq, r_var, kV_eq, kPt_eq, o_int, r_int, p_int, o_str, r_str, p_str, o_bl, r_bl, p_bl, o_non, r_non, p_non, o_cst, r_cst, p_cst, o_fnv, r_fnv, p_fnv, o_tyv, r_tyv, p_tyv, o_bin, r_bin, p_bin, o_un, r_un, p_un, o_tup, r_tup, p_tup, o_lst, r_lst, p_lst, o_sub, r_sub, p_sub, o_slc, r_slc, p_slc, o_call, r_call, p_call, o_callk, r_callk, p_callk, o_blt, r_blt, p_blt, o_mth, r_mth, p_mth, o_comp, r_comp, p_comp, o_rng, r_rng, p_rng, o_enm, r_enm, p_enm, o_zip, r_zip, p_zip, o_cmp, r_cmp, p_cmp, o_chn, r_chn, p_chn, o_not, r_not, p_not, o_and, r_and, p_and, o_or, r_or, p_or, o_ife, r_ife, p_ife, p_var, kT3_eq, kT2_eq, evVar, tsVar, liftO, liftB, flOf, fzO, okIf, cmp2, rsO, rsOs, unP, truth, lstAt, argV, argVs, slotsOf, argBack, setP, itO, itemsP, setPar, isNonP, kindO, seqOf, ownFz, wipeE, unwipe, consO, enmP, zipP, List.all_cons, List.all_nil, Bool.and_true, Bool.true_and, Bool.and_self, Option.bind_some, Option.map_some, List.getElem?_cons_zero, List.getElem?_cons_succ, List.set_cons_zero, List.set_cons_succ, Option.isSome_some, if_true, if_false, ite_true, ite_false, decide_true, decide_false, Bool.not_true, Bool.not_false, reduceIte, Bool.false_eq_true, q1, sgL, sgV, hl', doCall, nd0, isN_i, eq_ii, beq_self_eq_true, sz0, sz1, sz2, sz3, sz4, sz5, sz6, sz7, sz8, sz9, sz10, sz11, sz12, sz13, sz14, sz15, sz16, sz17, sz18, sz19, sz20]
      rfl
    · have h' : (a2 == 0) = false := by simpa using h
      have hv := hV.run p q t u a1 b1 a2 b2 k hp hq i1 i2 (by have := i2.a0; omega)
      simp only [bd_ok, bd_exc, bd_bad, fo_ok, fo_exc, th_nx, th_ret, th_exc, th_brk, th_cnt, tk_nx, tk_cnt, tk_brk, tk_ret, tk_exc, x_nil, x_seq, kAsg_eq, x_asg, kUnp_eq, x_unp, kPar_eq, x_par, kSet2_eq, kSet1_eq, x_seti, kApp_eq, x_app, kExpr_eq, x_expr, x_ret, x_retN, kIf_eq, x_ife, kLoop_eq, x_loop, x_whl, kWh_eq, x_brk, x_cnt, x_pass, kCl2_eq, kCl1_eq, kTr_eq, kB2_eq, kB1_eq, kU_eq, kTup_eq, kLst_eq, kS2_eq, kS1_eq, kC3_eq, kC2_eq, kC1_eq, kCall_eq, kK2_eq, kK1_eq, kBl_eq, kM2_eq, kM1_eq, kCo_eq, kRg_eq, kEn_eq, kZ2_eq, kZ1_eq, v_int, t_int, v_str, t_str, v_bl, t_bl, v_non, t_non, v_cst, t_cst, v_fnv, t_fnv, v_tyv, t_tyv, v_bin, t_bin, v_un, t_un, v_tup, t_tup, v_lst, t_lst, v_sub, t_sub, v_slc, t_slc, v_call, t_call, v_callk, t_callk, v_blt, t_blt, v_mth, t_mth, v_comp, t_comp, v_rng, t_rng, v_enm, t_enm, v_zip, t_zip, kVb_eq, kQ2_eq, kQ1_eq, kH4_eq, kH3_eq, kH2_eq, kH1_eq, v_cmp, t_cmp, v_chn, t_chn, v_var, t_var, kN2_eq, kN1_eq, kNt_eq, v_not, t_not, kAn_eq, kAt_eq, v_and, t_and, kOn_eq, kOt_eq, v_or, t_or, kIv_eq, kIt_eq, v_ife, t_ife, v_seq, v_no, kOs2_eq, kOs1_eq, os_nil, os_cons, kF2_eq, kF1_eq, f_nil, f_cons, kG2_eq, kG1_eq, kG3_eq, g_nil, g_val, g_slot, kGt_eq, g_tmpc, o_var, kIe_eq, it_ev, p_no, kRt_eq, r_var, kV_eq, kPt_eq, o_int, r_int, p_int, o_str, r_str, p_str, o_bl, r_bl, p_bl, o_non, r_non, p_non, o_cst, r_cst, p_cst, o_fnv, r_fnv, p_fnv, o_tyv, r_tyv, p_tyv, o_bin, r_bin, p_bin, o_un, r_un, p_un, o_tup, r_tup, p_tup, o_lst, r_lst, p_lst, o_sub, r_sub, p_sub, o_slc, r_slc, p_slc, o_call, r_call, p_call, o_callk, r_callk, p_callk, o_blt, r_blt, p_blt, o_mth, r_mth, p_mth, o_comp, r_comp, p_comp, o_rng, r_rng, p_rng, o_enm, r_enm, p_enm, o_zip, r_zip, p_zip, o_cmp, r_cmp, p_cmp, o_chn, r_chn, p_chn, o_not, r_not, p_not, o_and, r_and, p_and, o_or, r_or, p_or, o_ife, r_ife, p_ife, p_var, kT3_eq, kT2_eq, evVar, tsVar, liftO, liftB, flOf, fzO, okIf, cmp2, rsO, rsOs, unP, truth, lstAt, argV, argVs, slotsOf, argBack, setP, itO, itemsP, setPar, isNonP, kindO, seqOf, ownFz, wipeE, unwipe, consO, enmP, zipP, List.all_cons, List.all_nil, Bool.and_true, Bool.true_and, Bool.and_self, Option.bind_some, Option.map_some, List.getElem?_cons_zero, List.getElem?_cons_succ, List.set_cons_zero, List.set_cons_succ, Option.isSome_some, if_true, if_false, ite_true, ite_false, decide_true, decide_false, Bool.not_true, Bool.not_false, reduceIte, Bool.false_eq_true, q1, sgL, sgV, hl', hv, doCall, nd0, isN_i, eq_ii, h', h, sz0, sz1, sz2, sz3, sz4, sz5, sz6, sz7, sz8, sz9, sz10, sz11, sz12, sz13, sz14, sz15, sz16, sz17, sz18, sz19, sz20]
      rfl
theorem isn_oI (o : Option Int) : cmpP .IsNot (oI o) .non = some o.isSome := by cases o <;> rfl
theorem isn_oP (o : Option (Int × Int)) : cmpP .IsNot (oP o) .non = some o.isSome := by cases o <;> rfl
theorem do_run {C : Cal} (hL : LeastOk C) {p q : PV} {t u : Str} {a1 b1 a2 b2 : Int} (hp : Pl p t a1 b1) (hq : Pl q u a2 b2) (i1 : In a1 b1) (i2 : In a2 b2) :
    runF C (some d_do_touch) [p, q] = .ok (.bl (leastV t u a1 b1 a2 b2).isSome, .fz) [] := by
  show finish [false, false] (exec C d_do_touch.body [some (p, .fz), some (q, .fz)]) = _
  have sgL := hL.sig
  have hl := hL.run p q t u a1 b1 a2 b2 hp hq i1 i2
  unfold d_do_touch
  simp only [bd_ok, bd_exc, bd_bad, fo_ok, fo_exc, th_nx, th_ret, th_exc, th_brk, th_cnt, tk_nx, tk_cnt, tk_brk, tk_ret, tk_exc, x_nil, x_seq, kAsg_eq, x_asg, kUnp_eq, x_unp, kPar_eq, x_par, kSet2_eq, kSet1_eq, x_seti, kApp_eq, x_app, kExpr_eq, x_expr, x_ret, x_retN, kIf_eq, x_ife, kLoop_eq, x_loop, x_whl, kWh_eq, x_brk, x_cnt, x_pass, kCl2_eq, kCl1_eq, kTr_eq, kB2_eq, kB1_eq, kU_eq, kTup_eq, kLst_eq, kS2_eq, kS1_eq, kC3_eq, kC2_eq, kC1_eq, kCall_eq, kK2_eq, kK1_eq, kBl_eq, kM2_eq, kM1_eq, kCo_eq, kRg_eq, kEn_eq, kZ2_eq, kZ1_eq, v_int, t_int, v_str, t_str, v_bl, t_bl, v_non, t_non, v_cst, t_cst, v_fnv, t_fnv, v_tyv, t_tyv, v_bin, t_bin, v_un, t_un, v_tup, t_tup, v_lst, t_lst, v_sub, t_sub, v_slc, t_slc, v_call, t_call, v_callk, t_callk, v_blt, t_blt, v_mth, t_mth, v_comp, t_comp, v_rng, t_rng, v_enm, t_enm, v_zip, t_zip, kVb_eq, kQ2_eq, kQ1_eq, kH4_eq, kH3_eq, kH2_eq, kH1_eq, v_cmp, t_cmp, v_chn, t_chn, v_var, t_var, kN2_eq, kN1_eq, kNt_eq, v_not, t_not, kAn_eq, kAt_eq, v_and, t_and, kOn_eq, kOt_eq, v_or, t_or, kIv_eq, kIt_eq, v_ife, t_ife, v_seq, v_no, kOs2_eq, kOs1_eq, os_nil, os_cons, kF2_eq, kF1_eq, f_nil, f_cons, kG2_eq, kG1_eq, kG3_eq, g_nil, g_val, g_slot, kGt_eq, g_tmpc, o_var, kIe_eq, it_ev, p_no, kRt_eq, r_var, kV_eq, kPt_eq, o_int, r_int, p_int, o_str, r_str, p_str, o_bl, r_bl, p_bl, o_non, r_non, p_non, o_cst, r_cst, p_cst, o_fnv, r_fnv, p_fnv, o_tyv, r_tyv, p_tyv, o_bin, r_bin, p_bin, o_un, r_un, p_un, o_tup, r_tup, p_tup, o_lst, r_lst, p_lst, o_sub, r_sub, p_sub, o_slc, r_slc, p_slc, o_call, r_call, p_call, o_callk, r_callk, p_callk, o_blt, r_blt, p_blt, o_mth, r_mth, p_mth, o_comp, r_comp, p_comp, o_rng, r_rng, p_rng, o_enm, r_enm, p_enm, o_zip, r_zip, p_zip, o_cmp, r_cmp, p_cmp, o_chn, r_chn, p_chn, o_not, r_not, p_not, o_and, r_and, p_and, o_or, r_or, p_or, o_ife, r_ife, p_ife, p_var, kT3_eq, kT2_eq, evVar, tsVar, liftO, liftB, flOf, fzO, okIf, cmp2, rsO, rsOs, unP, truth, lstAt, argV, argVs, slotsOf, argBack, setP, itO, itemsP, setPar, isNonP, kindO, seqOf, ownFz, wipeE, unwipe, consO, enmP, zipP, List.all_cons, List.all_nil, Bool.and_true, Bool.true_and, Bool.and_self, Option.bind_some, Option.map_some, List.getElem?_cons_zero, List.getElem?_cons_succ, List.set_cons_zero, List.set_cons_succ, Option.isSome_some, if_true, if_false, ite_true, ite_false, decide_true, decide_false, Bool.not_true, Bool.not_false, reduceIte, Bool.false_eq_true, sgL, hl, doCall, nd0, isn_oI, sz0, sz1, sz2, sz3, sz4, sz5, sz6, sz7, sz8, sz9, sz10, sz11, sz12, sz13, sz14, sz15, sz16, sz17, sz18, sz19, sz20]
  rfl
/-! ### both ways tell the same: all numbers there are -/
def fstG (a1 a2 g : Int) : List Int → Option (Int × Int)
  | [] => none
  | k :: ks => if a2 = 0 ∧ a1 * k - g = 0 then some (k, 0) else if 0 < a2 ∧ 0 ≤ a1 * k - g ∧ (a1 * k - g) % a2 = 0 then some (k, (a1 * k - g) / a2) else fstG a1 a2 g ks
theorem fst_g (a1 b1 a2 b2 : Int) : ∀ ks : List Int, fstL a1 b1 a2 b2 ks = fstG a1 a2 (b2 - b1) ks
  | [] => rfl
  | k :: ks => by
    unfold fstL fstG
    have e : a1 * k + b1 - b2 = a1 * k - (b2 - b1) := by omega
    rw [e, fst_g a1 b1 a2 b2 ks]
def lvlG (a1 a2 g k : Int) : Int × Int :=
  if a1 * k - g < 0 ∧ 0 < a1 then (k - (a1 * k - g) / (a1 * stp a1 a2) * stp a1 a2, (a1 * (k - (a1 * k - g) / (a1 * stp a1 a2) * stp a1 a2) - g) / a2) else (k, (a1 * k - g) / a2)
theorem lvl_g (a1 b1 a2 b2 k : Int) : lvl a1 b1 a2 b2 k = lvlG a1 a2 (b2 - b1) k := by
  unfold lvl lvlG
  have e : ∀ k, a1 * k + b1 - b2 = a1 * k - (b2 - b1) := fun k => by omega
  rw [e, e]
def touchG (a1 a2 g : Int) : Option (Int × Int) := match ltn a1 a2 g with
  | none => none
  | some k => if a2 = 0 then some (k, 0) else some (lvlG a1 a2 g k)
def shiG (a g : Int) : List Int → Option Int
  | [] => none
  | k :: ks => if a * k = g then some k else shiG a g ks
theorem shi_g (a b1 b2 : Int) : ∀ ks : List Int, shiL a b1 a b2 ks = shiG a (b2 - b1) ks
  | [] => rfl
  | k :: ks => by
    unfold shiL shiG
    have e : (a * 60 + b1 = a * (60 - k) + b2) = (a * k = b2 - b1) := by
      rw [Int.mul_sub]; exact propext ⟨fun h => by omega, fun h => by omega⟩
    rw [shi_g a b1 b2 ks]
    simp only [e]
def okG (a1 a2 g : Int) : Bool := decide (touchG a1 a2 g = fstG a1 a2 g (upTo 64)) && (if a1 ≠ 0 ∧ a2 ≠ 0 ∧ g % (Int.gcd a1 a2 : Int) = 0 then (ltG a1 a2 g).isSome else true)
  && (if a1 ≠ 0 then decide (shiG a1 g shKs = if g % a1 = 0 then some (g / a1) else none) else true)
theorem okG_all : ((List.range 5).all fun a1 => (List.range 5).all fun a2 => (List.range 81).all fun i => okG a1 a2 ((i : Int) - 40)) = true := by decide +kernel
theorem okG_at {a1 a2 g : Int} (h1 : 0 ≤ a1) (h2 : a1 ≤ 4) (h3 : 0 ≤ a2) (h4 : a2 ≤ 4) (h5 : -40 ≤ g) (h6 : g ≤ 40) : okG a1 a2 g = true := by
  have h := List.all_eq_true.mp (List.all_eq_true.mp (List.all_eq_true.mp okG_all a1.toNat (List.mem_range.mpr (by omega))) a2.toNat (List.mem_range.mpr (by omega))) (g + 40).toNat (List.mem_range.mpr (by omega))
  have e1 : (a1.toNat : Int) = a1 := by omega
  have e2 : (a2.toNat : Int) = a2 := by omega
  have e3 : ((g + 40).toNat : Int) - 40 = g := by omega
  rwa [e1, e2, e3] at h
theorem allFound : AllFound := fun a1 b1 a2 b2 i1 i2 n1 n2 hm => by
  obtain ⟨h1, h2, h3, h4⟩ := i1
  obtain ⟨h5, h6, h7, h8⟩ := i2
  have h := okG_at h1 h2 h5 h6 (g := b2 - b1) (by omega) (by omega)
  obtain ⟨h12, _⟩ := band h
  obtain ⟨_, hq⟩ := band h12
  rwa [if_pos ⟨n1, n2, hm⟩] at hq
theorem touch_eq {t u : Str} {a1 b1 a2 b2 : Int} (i1 : In a1 b1) (i2 : In a2 b2) : touchV t u a1 b1 a2 b2 = firstV t u a1 b1 a2 b2 := by
  obtain ⟨h1, h2, h3, h4⟩ := i1
  obtain ⟨h5, h6, h7, h8⟩ := i2
  have h := okG_at h1 h2 h5 h6 (g := b2 - b1) (by omega) (by omega)
  obtain ⟨h12, _⟩ := band h
  obtain ⟨hq, _⟩ := band h12
  have hq := of_decide_eq_true hq
  unfold touchV firstV leastV
  by_cases ht : t = u
  · rw [if_pos ht, if_pos ht, fst_g, ← hq]
    unfold touchG
    cases ltn a1 a2 (b2 - b1) with
    | none => rfl
    | some k => simp only [lvl_g]
  · rw [if_neg ht, if_neg ht]
theorem some_eq {t u : Str} {a1 b1 a2 b2 : Int} (i1 : In a1 b1) (i2 : In a2 b2) : (leastV t u a1 b1 a2 b2).isSome = (firstV t u a1 b1 a2 b2).isSome := by
  rw [← touch_eq i1 i2]
  unfold touchV
  cases leastV t u a1 b1 a2 b2 with
  | none => rfl
  | some k => by_cases h : a2 = 0 <;> simp [h]
theorem back_eq {t u : Str} {a1 b1 a2 b2 : Int} (i1 : In a1 b1) (i2 : In a2 b2) : backV t u a1 b1 a2 b2 = shiftV t u a1 b1 a2 b2 := by
  obtain ⟨h1, h2, h3, h4⟩ := i1
  obtain ⟨h5, h6, h7, h8⟩ := i2
  have h := okG_at h1 h2 h5 h6 (g := b2 - b1) (by omega) (by omega)
  obtain ⟨_, hq⟩ := band h
  unfold backV shiftV
  by_cases ht : t = u ∧ a1 = a2 ∧ a1 ≠ 0
  · rw [if_pos ht]
    obtain ⟨z1, z2, z3⟩ := ht
    subst z2
    rw [if_pos z3] at hq
    rw [shi_g, of_decide_eq_true hq]
    by_cases hm : (b2 - b1) % a1 = 0
    · rw [if_pos ⟨z1, rfl, z3, hm⟩, if_pos hm]
    · rw [if_neg fun z => hm z.2.2.2, if_neg hm]
  · rw [if_neg ht, if_neg fun z => ht ⟨z.1, z.2.1, z.2.2.1⟩]
end K52

namespace K52
open PySem L2 Bd
structure AskC (C : Cal) : Prop where
  s1 : C.sig "_law_first" = some [false, false, false]
  s2 : C.sig "_law_shift" = some [false, false]
  s3 : C.sig "first_touch" = some [false, false]
  s4 : C.sig "do_touch" = some [false, false]
  s5 : C.sig "turns_back" = some [false, false]
  r1 : ∀ (p q : PV) (t u : Str) (a1 b1 a2 b2 : Int), Pl p t a1 b1 → Pl q u a2 b2 → In a1 b1 → In a2 b2 → C.run "_law_first" [p, q, .int 64] = .ok (oP (firstV t u a1 b1 a2 b2), .fz) []
  r2 : ∀ (p q : PV) (t u : Str) (a1 b1 a2 b2 : Int), Pl p t a1 b1 → Pl q u a2 b2 → In a1 b1 → In a2 b2 → C.run "_law_shift" [p, q] = .ok (oI (shiftV t u a1 b1 a2 b2), .fz) []
  r3 : ∀ (p q : PV) (t u : Str) (a1 b1 a2 b2 : Int), Pl p t a1 b1 → Pl q u a2 b2 → In a1 b1 → In a2 b2 → C.run "first_touch" [p, q] = .ok (oP (firstV t u a1 b1 a2 b2), .fz) []
  r4 : ∀ (p q : PV) (t u : Str) (a1 b1 a2 b2 : Int), Pl p t a1 b1 → Pl q u a2 b2 → In a1 b1 → In a2 b2 → C.run "do_touch" [p, q] = .ok (.bl (firstV t u a1 b1 a2 b2).isSome, .fz) []
  r5 : ∀ (p q : PV) (t u : Str) (a1 b1 a2 b2 : Int), Pl p t a1 b1 → Pl q u a2 b2 → In a1 b1 → In a2 b2 → C.run "turns_back" [p, q] = .ok (oI (shiftV t u a1 b1 a2 b2), .fz) []
  sm : SameOk C 4
theorem add33 (x1 x2 x3 y1 y2 y3 : PV) : binP .Add (.lst [x1, x2, x3]) (.lst [y1, y2, y3]) = some (.lst [x1, x2, x3, y1, y2, y3]) := by
  show (if 3 + 3 ≤ sizeLine then some (PV.lst [x1, x2, x3, y1, y2, y3]) else none) = _
  rw [if_pos (by decide +kernel)]
theorem blt_list_t (xs : List PV) : bltP .list [.tup xs] = some (.lst xs) := rfl
theorem good_oP (o : Option (Int × Int)) : good (oP o) = true ∧ depP (oP o) ≤ 1 := by
  cases o with
  | none => exact ⟨rfl, by decide⟩
  | some r => exact ⟨rfl, Nat.le_refl _⟩
theorem good_oI (o : Option Int) : good (oI o) = true ∧ depP (oI o) = 0 := by
  cases o with
  | none => exact ⟨rfl, rfl⟩
  | some r => exact ⟨rfl, rfl⟩
theorem ask_run {C : Cal} (hA : AskC C) {t u : Str} {a1 b1 a2 b2 : Int} (i1 : In a1 b1) (i2 : In a2 b2) :
    runF C (some d__law_asked) [.tup [.str t, .int a1, .int b1], .tup [.str u, .int a2, .int b2]] = .ok (.bl true, .fz) [] := by
  show finish [false, false] (exec C d__law_asked.body [some (.tup [.str t, .int a1, .int b1], .fz), some (.tup [.str u, .int a2, .int b2], .fz), none, none, none]) = _
  have s1 := hA.s1
  have s2 := hA.s2
  have s3 := hA.s3
  have s4 := hA.s4
  have s5 := hA.s5
  have s6 := hA.sm.sig
  have p := pl_tup t a1 b1
  have q := pl_tup u a2 b2
  have p' := pl_lst t a1 b1
  have q' := pl_lst u a2 b2
  have r1 := hA.r1 _ _ _ _ _ _ _ _ p q i1 i2
  have r2 := hA.r2 _ _ _ _ _ _ _ _ p q i1 i2
  have r3 := hA.r3 _ _ _ _ _ _ _ _ p q i1 i2
  have r4 := hA.r4 _ _ _ _ _ _ _ _ p q i1 i2
  have r5 := hA.r5 _ _ _ _ _ _ _ _ p q i1 i2
  have r6 := hA.r3 _ _ _ _ _ _ _ _ p' q' i1 i2
  have r7 := hA.r4 _ _ _ _ _ _ _ _ p' q i1 i2
  have r8 := hA.r5 _ _ _ _ _ _ _ _ p q' i1 i2
  generalize firstV t u a1 b1 a2 b2 = o at *
  generalize shiftV t u a1 b1 a2 b2 = o2 at *
  obtain ⟨g1, d1⟩ := good_oP o
  obtain ⟨g2, d2⟩ := good_oI o2
  have r9 : C.run "_law_same" [.lst [oP o, .bl o.isSome, oI o2, oP o, .bl o.isSome, oI o2], .lst [oP o, .bl o.isSome, oI o2, oP o, .bl o.isSome, oI o2]] = .ok (.bl true, .fz) [] := by
    refine hA.sm.run _ ?_ ?_
    · show (good (oP o) && (true && (good (oI o2) && (good (oP o) && (true && (good (oI o2) && true))))) && decide (6 ≤ sizeLine)) = true
      rw [g1, g2]; decide +kernel
    · show max (depP (oP o)) (max 0 (max (depP (oI o2)) (max (depP (oP o)) (max 0 (max (depP (oI o2)) 0))))) + 1 < 4
      omega
  unfold d__law_asked
  simp only [bd_ok, bd_exc, bd_bad, fo_ok, fo_exc, th_nx, th_ret, th_exc, th_brk, th_cnt, tk_nx, tk_cnt, tk_brk, tk_ret, tk_exc, x_nil, x_seq, kAsg_eq, x_asg, kUnp_eq, x_unp, kPar_eq, x_par, kSet2_eq, kSet1_eq, x_seti, kApp_eq, x_app, kExpr_eq, x_expr, x_ret, x_retN, kIf_eq, x_ife, kLoop_eq, x_loop, x_whl, kWh_eq, x_brk, x_cnt, x_pass, kCl2_eq, kCl1_eq, kTr_eq, kB2_eq, kB1_eq, kU_eq, kTup_eq, kLst_eq, kS2_eq, kS1_eq, kC3_eq, kC2_eq, kC1_eq, kCall_eq, kK2_eq, kK1_eq, kBl_eq, kM2_eq, kM1_eq, kCo_eq, kRg_eq, kEn_eq, kZ2_eq, kZ1_eq, v_int, t_int, v_str, t_str, v_bl, t_bl, v_non, t_non, v_cst, t_cst, v_fnv, t_fnv, v_tyv, t_tyv, v_bin, t_bin, v_un, t_un, v_tup, t_tup, v_lst, t_lst, v_sub, t_sub, v_slc, t_slc, v_call, t_call, v_callk, t_callk, v_blt, t_blt, v_mth, t_mth, v_comp, t_comp, v_rng, t_rng, v_enm, t_enm, v_zip, t_zip, kVb_eq, kQ2_eq, kQ1_eq, kH4_eq, kH3_eq, kH2_eq, kH1_eq, v_cmp, t_cmp, v_chn, t_chn, v_var, t_var, kN2_eq, kN1_eq, kNt_eq, v_not, t_not, kAn_eq, kAt_eq, v_and, t_and, kOn_eq, kOt_eq, v_or, t_or, kIv_eq, kIt_eq, v_ife, t_ife, v_seq, v_no, kOs2_eq, kOs1_eq, os_nil, os_cons, kF2_eq, kF1_eq, f_nil, f_cons, kG2_eq, kG1_eq, kG3_eq, g_nil, g_val, g_slot, kGt_eq, g_tmpc, o_var, kIe_eq, it_ev, p_no, kRt_eq, r_var, kV_eq, kPt_eq, o_int, r_int, p_int, o_str, r_str, p_str, o_bl, r_bl, p_bl, o_non, r_non, p_non, o_cst, r_cst, p_cst, o_fnv, r_fnv, p_fnv, o_tyv, r_tyv, p_tyv, o_bin, r_bin, p_bin, o_un, r_un, p_un, o_tup, r_tup, p_tup, o_lst, r_lst, p_lst, o_sub, r_sub, p_sub, o_slc, r_slc, p_slc, o_call, r_call, p_call, o_callk, r_callk, p_callk, o_blt, r_blt, p_blt, o_mth, r_mth, p_mth, o_comp, r_comp, p_comp, o_rng, r_rng, p_rng, o_enm, r_enm, p_enm, o_zip, r_zip, p_zip, o_cmp, r_cmp, p_cmp, o_chn, r_chn, p_chn, o_not, r_not, p_not, o_and, r_and, p_and, o_or, r_or, p_or, o_ife, r_ife, p_ife, p_var, kT3_eq, kT2_eq, evVar, tsVar, liftO, liftB, flOf, fzO, okIf, cmp2, rsO, rsOs, unP, truth, lstAt, argV, argVs, slotsOf, argBack, setP, itO, itemsP, setPar, isNonP, kindO, seqOf, ownFz, wipeE, unwipe, consO, enmP, zipP, List.all_cons, List.all_nil, Bool.and_true, Bool.true_and, Bool.and_self, Option.bind_some, Option.map_some, List.getElem?_cons_zero, List.getElem?_cons_succ, List.set_cons_zero, List.set_cons_succ, Option.isSome_some, if_true, if_false, ite_true, ite_false, decide_true, decide_false, Bool.not_true, Bool.not_false, reduceIte, Bool.false_eq_true, s1, s2, s3, s4, s5, s6, r1, r2, r3, r4, r5, r6, r7, r8, r9, doCall, nd0, isn_oP, blt_list_t, add33, sz0, sz1, sz2, sz3, sz4, sz5, sz6, sz7, sz8, sz9, sz10, sz11, sz12, sz13, sz14, sz15, sz16, sz17, sz18, sz19, sz20]
  rfl
/-! ### the box -/
theorem blt_abs (i : Int) : bltP .abs [.int i] = some (.int (if i < 0 then -i else i)) := rfl
theorem blt_intb (b : Bool) : bltP .int [.bl b] = some (.int (if b then 1 else 0)) := rfl
theorem pow18 : binP .Pow (.int 10) (.int 18) = some (.int 1000000000000000000) := rfl
theorem small01 (b : Bool) : smallI (if b then 1 else 0) = true := by cases b <;> rfl
theorem box_run {C : Cal} {rs : List PV} {k g : Int} (h0 : 0 ≤ k) (h1 : k < rs.length) (hg : atI rs k = some (.int g)) :
    ∃ x y : Int, runF C (some d__law_box) [.lst rs, .int k] = .ok (.lst [.int x, .int y, .int 0], .own) [] := by
  have e : ∃ x y : Int, exec C d__law_box.body [some (.lst rs, .fz), some (.int k, .fz), none, none] = .ret (.lst [.int x, .int y, .int 0], .own) [some (.lst rs, .fz), some (.int k, .fz), some (.int g, .fz), some (.int x, .fz)] := by
    refine ⟨(if g < 0 then -g else g) * (if decide (1000000000000000000 ≤ (if g < 0 then -g else g)) then 1 else 0), g % 2305843009213693951 + 39373 * k + 93752, ?_⟩
    unfold d__law_box
    simp only [bd_ok, bd_exc, bd_bad, fo_ok, fo_exc, th_nx, th_ret, th_exc, th_brk, th_cnt, tk_nx, tk_cnt, tk_brk, tk_ret, tk_exc, x_nil, x_seq, kAsg_eq, x_asg, kUnp_eq, x_unp, kPar_eq, x_par, kSet2_eq, kSet1_eq, x_seti, kApp_eq, x_app, kExpr_eq, x_expr, x_ret, x_retN, kIf_eq, x_ife, kLoop_eq, x_loop, x_whl, kWh_eq, x_brk, x_cnt, x_pass, kCl2_eq, kCl1_eq, kTr_eq, kB2_eq, kB1_eq, kU_eq, kTup_eq, kLst_eq, kS2_eq, kS1_eq, kC3_eq, kC2_eq, kC1_eq, kCall_eq, kK2_eq, kK1_eq, kBl_eq, kM2_eq, kM1_eq, kCo_eq, kRg_eq, kEn_eq, kZ2_eq, kZ1_eq, v_int, t_int, v_str, t_str, v_bl, t_bl, v_non, t_non, v_cst, t_cst, v_fnv, t_fnv, v_tyv, t_tyv, v_bin, t_bin, v_un, t_un, v_tup, t_tup, v_lst, t_lst, v_sub, t_sub, v_slc, t_slc, v_call, t_call, v_callk, t_callk, v_blt, t_blt, v_mth, t_mth, v_comp, t_comp, v_rng, t_rng, v_enm, t_enm, v_zip, t_zip, kVb_eq, kQ2_eq, kQ1_eq, kH4_eq, kH3_eq, kH2_eq, kH1_eq, v_cmp, t_cmp, v_chn, t_chn, v_var, t_var, kN2_eq, kN1_eq, kNt_eq, v_not, t_not, kAn_eq, kAt_eq, v_and, t_and, kOn_eq, kOt_eq, v_or, t_or, kIv_eq, kIt_eq, v_ife, t_ife, v_seq, v_no, kOs2_eq, kOs1_eq, os_nil, os_cons, kF2_eq, kF1_eq, f_nil, f_cons, kG2_eq, kG1_eq, kG3_eq, g_nil, g_val, g_slot, kGt_eq, g_tmpc, o_var, kIe_eq, it_ev, p_no, kRt_eq, r_var, kV_eq, kPt_eq, o_int, r_int, p_int, o_str, r_str, p_str, o_bl, r_bl, p_bl, o_non, r_non, p_non, o_cst, r_cst, p_cst, o_fnv, r_fnv, p_fnv, o_tyv, r_tyv, p_tyv, o_bin, r_bin, p_bin, o_un, r_un, p_un, o_tup, r_tup, p_tup, o_lst, r_lst, p_lst, o_sub, r_sub, p_sub, o_slc, r_slc, p_slc, o_call, r_call, p_call, o_callk, r_callk, p_callk, o_blt, r_blt, p_blt, o_mth, r_mth, p_mth, o_comp, r_comp, p_comp, o_rng, r_rng, p_rng, o_enm, r_enm, p_enm, o_zip, r_zip, p_zip, o_cmp, r_cmp, p_cmp, o_chn, r_chn, p_chn, o_not, r_not, p_not, o_and, r_and, p_and, o_or, r_or, p_or, o_ife, r_ife, p_ife, p_var, kT3_eq, kT2_eq, evVar, tsVar, liftO, liftB, flOf, fzO, okIf, cmp2, rsO, rsOs, unP, truth, lstAt, argV, argVs, slotsOf, argBack, setP, itO, itemsP, setPar, isNonP, kindO, seqOf, ownFz, wipeE, unwipe, consO, enmP, zipP, List.all_cons, List.all_nil, Bool.and_true, Bool.true_and, Bool.and_self, Option.bind_some, Option.map_some, List.getElem?_cons_zero, List.getElem?_cons_succ, List.set_cons_zero, List.set_cons_succ, Option.isSome_some, if_true, if_false, ite_true, ite_false, decide_true, decide_false, Bool.not_true, Bool.not_false, reduceIte, Bool.false_eq_true, blt_len_l, lt_ii, h1, ix_lst, hg, blt_abs, pow18, ge_ii, blt_intb, blt_int, mul_r _ _ (small01 _), mul_l 39373 _ rfl, mod_p _ 2305843009213693951 (by decide), add_p, sz0, sz1, sz2, sz3, sz4, sz5, sz6, sz7, sz8, sz9, sz10, sz11, sz12, sz13, sz14, sz15, sz16, sz17, sz18, sz19, sz20]
  obtain ⟨x, y, e⟩ := e
  refine ⟨x, y, ?_⟩
  show finish [false, false] (exec C d__law_box.body [some (.lst rs, .fz), some (.int k, .fz), none, none]) = _
  rw [e]; rfl
/-! ### the cells -/
def cellT : IS := (.seq (.asg 5 (.bin .Mod (.blt .int (.cons (.var 3) .nil)) (.var 1)))
 (.seq (.seti 2 (.var 5) (.bin .Add (.sub (.var 2) (.var 5)) (.bin .Mult (.var 4) (.bin .Add (.var 3) (.int 2)))))
 .nil))
theorem at_map {fs : List Int} {m : Int} (h : 0 ≤ m) (h2 : m < fs.length) : ∃ f : Int, atI (fs.map PV.int) m = some (.int f) ∧ ixN (fs.map PV.int).length m = some m.toNat := by
  have hn : m.toNat < fs.length := by omega
  refine ⟨fs[m.toNat], ?_, ?_⟩
  · unfold atI ixN
    rw [if_pos h, if_pos (by rw [List.length_map]; exact h2)]
    show (fs.map PV.int)[m.toNat]? = _
    rw [List.getElem?_map, List.getElem?_eq_getElem hn]; rfl
  · unfold ixN
    rw [if_pos h, if_pos (by rw [List.length_map]; exact h2)]
theorem cell_loop {C : Cal} {s : PV} {t : Int} (ht : 0 < t) : ∀ (xs : List Int) (n : Nat) (fs : List Int) (u v w : Option (PV × Fl)), (fs.length : Int) = t → n + xs.length < 1000000 →
    ∃ (gs : List Int) (u' v' w' : Option (PV × Fl)), gs.length = fs.length ∧ forLoop (.tup [3, 4]) (exec C cellT) (enmItems n (xs.map PV.int)) [some (s, .fz), some (.int t, .fz), some (.lst (fs.map PV.int), .own), u, v, w] = .nx [some (s, .fz), some (.int t, .fz), some (.lst (gs.map PV.int), .own), u', v', w']
  | [], n, fs, u, v, w, _, _ => ⟨fs, u, v, w, rfl, rfl⟩
  | x :: xs, n, fs, u, v, w, hl, hn => by
    have e : forLoop (.tup [3, 4]) (exec C cellT) (enmItems n ((x :: xs).map PV.int)) [some (s, .fz), some (.int t, .fz), some (.lst (fs.map PV.int), .own), u, v, w] = turnK (forLoop (.tup [3, 4]) (exec C cellT) (enmItems (n + 1) (xs.map PV.int))) (exec C cellT [some (s, .fz), some (.int t, .fz), some (.lst (fs.map PV.int), .own), some (.int n, .fz), some (.int x, .fz), w]) := rfl
    have hm0 := Int.emod_nonneg (n : Int) (Int.ne_of_gt ht)
    have hm1 := Int.emod_lt_of_pos (n : Int) ht
    obtain ⟨f, hf, hi⟩ := at_map (fs := fs) hm0 (by omega)
    have sm : smallI ((n : Int) + 2) = true := small_of (by omega) (by simp at hn; omega)
    have ee : exec C cellT [some (s, .fz), some (.int t, .fz), some (.lst (fs.map PV.int), .own), some (.int n, .fz), some (.int x, .fz), w] = .nx [some (s, .fz), some (.int t, .fz), some (.lst ((fs.map PV.int).set ((n : Int) % t).toNat (.int (f + x * ((n : Int) + 2)))), .own), some (.int n, .fz), some (.int x, .fz), some (.int ((n : Int) % t), .fz)] := by
      unfold cellT
      simp only [bd_ok, bd_exc, bd_bad, fo_ok, fo_exc, th_nx, th_ret, th_exc, th_brk, th_cnt, tk_nx, tk_cnt, tk_brk, tk_ret, tk_exc, x_nil, x_seq, kAsg_eq, x_asg, kUnp_eq, x_unp, kPar_eq, x_par, kSet2_eq, kSet1_eq, x_seti, kApp_eq, x_app, kExpr_eq, x_expr, x_ret, x_retN, kIf_eq, x_ife, kLoop_eq, x_loop, x_whl, kWh_eq, x_brk, x_cnt, x_pass, kCl2_eq, kCl1_eq, kTr_eq, kB2_eq, kB1_eq, kU_eq, kTup_eq, kLst_eq, kS2_eq, kS1_eq, kC3_eq, kC2_eq, kC1_eq, kCall_eq, kK2_eq, kK1_eq, kBl_eq, kM2_eq, kM1_eq, kCo_eq, kRg_eq, kEn_eq, kZ2_eq, kZ1_eq, v_int, t_int, v_str, t_str, v_bl, t_bl, v_non, t_non, v_cst, t_cst, v_fnv, t_fnv, v_tyv, t_tyv, v_bin, t_bin, v_un, t_un, v_tup, t_tup, v_lst, t_lst, v_sub, t_sub, v_slc, t_slc, v_call, t_call, v_callk, t_callk, v_blt, t_blt, v_mth, t_mth, v_comp, t_comp, v_rng, t_rng, v_enm, t_enm, v_zip, t_zip, kVb_eq, kQ2_eq, kQ1_eq, kH4_eq, kH3_eq, kH2_eq, kH1_eq, v_cmp, t_cmp, v_chn, t_chn, v_var, t_var, kN2_eq, kN1_eq, kNt_eq, v_not, t_not, kAn_eq, kAt_eq, v_and, t_and, kOn_eq, kOt_eq, v_or, t_or, kIv_eq, kIt_eq, v_ife, t_ife, v_seq, v_no, kOs2_eq, kOs1_eq, os_nil, os_cons, kF2_eq, kF1_eq, f_nil, f_cons, kG2_eq, kG1_eq, kG3_eq, g_nil, g_val, g_slot, kGt_eq, g_tmpc, o_var, kIe_eq, it_ev, p_no, kRt_eq, r_var, kV_eq, kPt_eq, o_int, r_int, p_int, o_str, r_str, p_str, o_bl, r_bl, p_bl, o_non, r_non, p_non, o_cst, r_cst, p_cst, o_fnv, r_fnv, p_fnv, o_tyv, r_tyv, p_tyv, o_bin, r_bin, p_bin, o_un, r_un, p_un, o_tup, r_tup, p_tup, o_lst, r_lst, p_lst, o_sub, r_sub, p_sub, o_slc, r_slc, p_slc, o_call, r_call, p_call, o_callk, r_callk, p_callk, o_blt, r_blt, p_blt, o_mth, r_mth, p_mth, o_comp, r_comp, p_comp, o_rng, r_rng, p_rng, o_enm, r_enm, p_enm, o_zip, r_zip, p_zip, o_cmp, r_cmp, p_cmp, o_chn, r_chn, p_chn, o_not, r_not, p_not, o_and, r_and, p_and, o_or, r_or, p_or, o_ife, r_ife, p_ife, p_var, kT3_eq, kT2_eq, evVar, tsVar, liftO, liftB, flOf, fzO, okIf, cmp2, rsO, rsOs, unP, truth, lstAt, argV, argVs, slotsOf, argBack, setP, itO, itemsP, setPar, isNonP, kindO, seqOf, ownFz, wipeE, unwipe, consO, enmP, zipP, List.all_cons, List.all_nil, Bool.and_true, Bool.true_and, Bool.and_self, Option.bind_some, Option.map_some, List.getElem?_cons_zero, List.getElem?_cons_succ, List.set_cons_zero, List.set_cons_succ, Option.isSome_some, if_true, if_false, ite_true, ite_false, decide_true, decide_false, Bool.not_true, Bool.not_false, reduceIte, Bool.false_eq_true, blt_int, mod_p _ _ ht, ix_lst, hf, add_p, mul_r _ _ sm, setItemE, hi, sz0, sz1, sz2, sz3, sz4, sz5, sz6, sz7, sz8, sz9, sz10, sz11, sz12, sz13, sz14, sz15, sz16, sz17, sz18, sz19, sz20]
    have em : (fs.map PV.int).set ((n : Int) % t).toNat (.int (f + x * ((n : Int) + 2))) = (fs.set ((n : Int) % t).toNat (f + x * ((n : Int) + 2))).map PV.int := by rw [List.map_set]
    rw [e, ee, em, tk_nx]
    obtain ⟨gs, u', v', w', hgl, hg⟩ := cell_loop ht xs (n + 1) (fs.set ((n : Int) % t).toNat (f + x * ((n : Int) + 2))) (some (.int n, .fz)) (some (.int x, .fz)) (some (.int ((n : Int) % t), .fz)) (by rw [List.length_set]; exact hl) (by simp at hn; omega)
    exact ⟨gs, u', v', w', by rw [hgl, List.length_set], hg⟩
theorem cut_map (ns : List Int) (lo hi : Option Int) : cutP (ns.map PV.int) lo hi = ((ns.drop (HT.sIx ns.length 0 lo)).take (HT.sIx ns.length ns.length hi - HT.sIx ns.length 0 lo)).map PV.int := by
  unfold cutP
  rw [List.length_map, ← List.map_drop, ← List.map_take]
theorem sl_scr (xs : List PV) (lo hi : Option Int) : slP (.scr xs) lo hi = some (.lst (cutP xs lo hi)) := rfl
theorem blt_list_l (xs : List PV) : bltP .list [.lst xs] = some (.lst xs) := rfl
theorem truth_l (xs : List PV) : truth (.lst xs) = some (!xs.isEmpty) := rfl
theorem cells_run {C : Cal} (ns : List Int) (hn : ns.length ≤ 63) : ∃ rs : List Int, 0 < rs.length ∧ rs.length ≤ 3 ∧ runF C (some d__law_cells) [.scr (ns.map PV.int), .int 3] = .ok (.lst (rs.map PV.int), .own) [] := by
  have c1 : cutP (ns.map PV.int) none (some 3) = (ns.take 3).map PV.int := by
    rw [cut_map]
    show ((ns.drop 0).take (HT.sIx ns.length ns.length (some ((3 : Nat) : Int)) - 0)).map PV.int = _
    rw [HT.sIx_nat, List.drop_zero, Nat.sub_zero]
    congr 1
    rcases Nat.le_total 3 ns.length with h | h
    · rw [Nat.min_eq_left h]
    · rw [Nat.min_eq_right h, List.take_of_length_le (Nat.le_refl _), List.take_of_length_le h]
  have c2 : ∃ ys : List Int, cutP (ns.map PV.int) (some 3) (some 63) = ys.map PV.int ∧ ys.length ≤ 63 ∧ (ys ≠ [] → 3 ≤ ns.length) := by
    refine ⟨_, cut_map _ _ _, ?_, fun h => ?_⟩
    · rw [List.length_take, List.length_drop]; omega
    · have e : HT.sIx ns.length 0 (some 3) = min 3 ns.length := HT.sIx_nat ns.length 0 3
      rw [e] at h
      apply Classical.byContradiction
      intro hc
      apply h
      rw [Nat.min_eq_right (by omega), List.drop_length, List.take_nil]
  obtain ⟨ys, c2, hy, hy3⟩ := c2
  show ∃ rs : List Int, _ ∧ _ ∧ finish [false, false] (exec C d__law_cells.body [some (.scr (ns.map PV.int), .fz), some (.int 3, .fz), none, none, none, none]) = _
  have main : ∀ fs : List Int, 0 < fs.length → fs.length ≤ 3 → (ys ≠ [] → fs.length = 3) → exec C (.asg 2 (.or (.blt .list (.cons (.slc (.var 0) .no (.var 1)) .nil)) (.lst (.cons (.int 0) .nil)))) [some (.scr (ns.map PV.int), .fz), some (.int 3, .fz), none, none, none, none] = .nx [some (.scr (ns.map PV.int), .fz), some (.int 3, .fz), some (.lst (fs.map PV.int), .own), none, none, none] →
      ∃ rs : List Int, 0 < rs.length ∧ rs.length ≤ 3 ∧ finish [false, false] (exec C d__law_cells.body [some (.scr (ns.map PV.int), .fz), some (.int 3, .fz), none, none, none, none]) = .ok (.lst (rs.map PV.int), .own) [] := fun fs f0 f3 fy ea => by
    obtain ⟨gs, u, v, w, hl, hg⟩ : ∃ (gs : List Int) (u' v' w' : Option (PV × Fl)), gs.length = fs.length ∧ forLoop (.tup [3, 4]) (exec C cellT) (enmItems 0 (ys.map PV.int)) [some (.scr (ns.map PV.int), .fz), some (.int 3, .fz), some (.lst (fs.map PV.int), .own), none, none, none] = .nx [some (.scr (ns.map PV.int), .fz), some (.int 3, .fz), some (.lst (gs.map PV.int), .own), u', v', w'] := by
      by_cases h : ys = []
      · subst h; exact ⟨fs, none, none, none, rfl, rfl⟩
      · exact cell_loop (by decide) ys 0 fs none none none (by rw [fy h]; rfl) (by omega)
    refine ⟨gs, by omega, by omega, ?_⟩
    have ee : exec C d__law_cells.body [some (.scr (ns.map PV.int), .fz), some (.int 3, .fz), none, none, none, none] = .ret (.lst (gs.map PV.int), .own) [some (.scr (ns.map PV.int), .fz), some (.int 3, .fz), none, u, v, w] := by
      show exec C (.seq (.asg 2 (.or (.blt .list (.cons (.slc (.var 0) .no (.var 1)) .nil)) (.lst (.cons (.int 0) .nil)))) (.seq (.loop (.tup [3, 4]) (.enm (.slc (.var 0) (.var 1) (.int 63))) cellT) (.seq (.ret (.var 2)) .nil))) _ = _
      rw [x_seq, ea]
      simp only [bd_ok, bd_exc, bd_bad, fo_ok, fo_exc, th_nx, th_ret, th_exc, th_brk, th_cnt, tk_nx, tk_cnt, tk_brk, tk_ret, tk_exc, x_nil, x_seq, kAsg_eq, x_asg, kUnp_eq, x_unp, kPar_eq, x_par, kSet2_eq, kSet1_eq, x_seti, kApp_eq, x_app, kExpr_eq, x_expr, x_ret, x_retN, kIf_eq, x_ife, kLoop_eq, x_loop, x_whl, kWh_eq, x_brk, x_cnt, x_pass, kCl2_eq, kCl1_eq, kTr_eq, kB2_eq, kB1_eq, kU_eq, kTup_eq, kLst_eq, kS2_eq, kS1_eq, kC3_eq, kC2_eq, kC1_eq, kCall_eq, kK2_eq, kK1_eq, kBl_eq, kM2_eq, kM1_eq, kCo_eq, kRg_eq, kEn_eq, kZ2_eq, kZ1_eq, v_int, t_int, v_str, t_str, v_bl, t_bl, v_non, t_non, v_cst, t_cst, v_fnv, t_fnv, v_tyv, t_tyv, v_bin, t_bin, v_un, t_un, v_tup, t_tup, v_lst, t_lst, v_sub, t_sub, v_slc, t_slc, v_call, t_call, v_callk, t_callk, v_blt, t_blt, v_mth, t_mth, v_comp, t_comp, v_rng, t_rng, v_enm, t_enm, v_zip, t_zip, kVb_eq, kQ2_eq, kQ1_eq, kH4_eq, kH3_eq, kH2_eq, kH1_eq, v_cmp, t_cmp, v_chn, t_chn, v_var, t_var, kN2_eq, kN1_eq, kNt_eq, v_not, t_not, kAn_eq, kAt_eq, v_and, t_and, kOn_eq, kOt_eq, v_or, t_or, kIv_eq, kIt_eq, v_ife, t_ife, v_seq, v_no, kOs2_eq, kOs1_eq, os_nil, os_cons, kF2_eq, kF1_eq, f_nil, f_cons, kG2_eq, kG1_eq, kG3_eq, g_nil, g_val, g_slot, kGt_eq, g_tmpc, o_var, kIe_eq, it_ev, p_no, kRt_eq, r_var, kV_eq, kPt_eq, o_int, r_int, p_int, o_str, r_str, p_str, o_bl, r_bl, p_bl, o_non, r_non, p_non, o_cst, r_cst, p_cst, o_fnv, r_fnv, p_fnv, o_tyv, r_tyv, p_tyv, o_bin, r_bin, p_bin, o_un, r_un, p_un, o_tup, r_tup, p_tup, o_lst, r_lst, p_lst, o_sub, r_sub, p_sub, o_slc, r_slc, p_slc, o_call, r_call, p_call, o_callk, r_callk, p_callk, o_blt, r_blt, p_blt, o_mth, r_mth, p_mth, o_comp, r_comp, p_comp, o_rng, r_rng, p_rng, o_enm, r_enm, p_enm, o_zip, r_zip, p_zip, o_cmp, r_cmp, p_cmp, o_chn, r_chn, p_chn, o_not, r_not, p_not, o_and, r_and, p_and, o_or, r_or, p_or, o_ife, r_ife, p_ife, p_var, kT3_eq, kT2_eq, evVar, tsVar, liftO, liftB, flOf, fzO, okIf, cmp2, rsO, rsOs, unP, truth, lstAt, argV, argVs, slotsOf, argBack, setP, itO, itemsP, setPar, isNonP, kindO, seqOf, ownFz, wipeE, unwipe, consO, enmP, zipP, List.all_cons, List.all_nil, Bool.and_true, Bool.true_and, Bool.and_self, Option.bind_some, Option.map_some, List.getElem?_cons_zero, List.getElem?_cons_succ, List.set_cons_zero, List.set_cons_succ, Option.isSome_some, if_true, if_false, ite_true, ite_false, decide_true, decide_false, Bool.not_true, Bool.not_false, reduceIte, Bool.false_eq_true, sl_scr, c2, hg, sz0, sz1, sz2, sz3, sz4, sz5, sz6, sz7, sz8, sz9, sz10, sz11, sz12, sz13, sz14, sz15, sz16, sz17, sz18, sz19, sz20]
    rw [ee]; rfl
  by_cases h : ns = []
  · refine main [0] (by decide) (by decide) (fun z => absurd (hy3 z) (by rw [h]; decide)) ?_
    subst h
    simp only [bd_ok, bd_exc, bd_bad, fo_ok, fo_exc, th_nx, th_ret, th_exc, th_brk, th_cnt, tk_nx, tk_cnt, tk_brk, tk_ret, tk_exc, x_nil, x_seq, kAsg_eq, x_asg, kUnp_eq, x_unp, kPar_eq, x_par, kSet2_eq, kSet1_eq, x_seti, kApp_eq, x_app, kExpr_eq, x_expr, x_ret, x_retN, kIf_eq, x_ife, kLoop_eq, x_loop, x_whl, kWh_eq, x_brk, x_cnt, x_pass, kCl2_eq, kCl1_eq, kTr_eq, kB2_eq, kB1_eq, kU_eq, kTup_eq, kLst_eq, kS2_eq, kS1_eq, kC3_eq, kC2_eq, kC1_eq, kCall_eq, kK2_eq, kK1_eq, kBl_eq, kM2_eq, kM1_eq, kCo_eq, kRg_eq, kEn_eq, kZ2_eq, kZ1_eq, v_int, t_int, v_str, t_str, v_bl, t_bl, v_non, t_non, v_cst, t_cst, v_fnv, t_fnv, v_tyv, t_tyv, v_bin, t_bin, v_un, t_un, v_tup, t_tup, v_lst, t_lst, v_sub, t_sub, v_slc, t_slc, v_call, t_call, v_callk, t_callk, v_blt, t_blt, v_mth, t_mth, v_comp, t_comp, v_rng, t_rng, v_enm, t_enm, v_zip, t_zip, kVb_eq, kQ2_eq, kQ1_eq, kH4_eq, kH3_eq, kH2_eq, kH1_eq, v_cmp, t_cmp, v_chn, t_chn, v_var, t_var, kN2_eq, kN1_eq, kNt_eq, v_not, t_not, kAn_eq, kAt_eq, v_and, t_and, kOn_eq, kOt_eq, v_or, t_or, kIv_eq, kIt_eq, v_ife, t_ife, v_seq, v_no, kOs2_eq, kOs1_eq, os_nil, os_cons, kF2_eq, kF1_eq, f_nil, f_cons, kG2_eq, kG1_eq, kG3_eq, g_nil, g_val, g_slot, kGt_eq, g_tmpc, o_var, kIe_eq, it_ev, p_no, kRt_eq, r_var, kV_eq, kPt_eq, o_int, r_int, p_int, o_str, r_str, p_str, o_bl, r_bl, p_bl, o_non, r_non, p_non, o_cst, r_cst, p_cst, o_fnv, r_fnv, p_fnv, o_tyv, r_tyv, p_tyv, o_bin, r_bin, p_bin, o_un, r_un, p_un, o_tup, r_tup, p_tup, o_lst, r_lst, p_lst, o_sub, r_sub, p_sub, o_slc, r_slc, p_slc, o_call, r_call, p_call, o_callk, r_callk, p_callk, o_blt, r_blt, p_blt, o_mth, r_mth, p_mth, o_comp, r_comp, p_comp, o_rng, r_rng, p_rng, o_enm, r_enm, p_enm, o_zip, r_zip, p_zip, o_cmp, r_cmp, p_cmp, o_chn, r_chn, p_chn, o_not, r_not, p_not, o_and, r_and, p_and, o_or, r_or, p_or, o_ife, r_ife, p_ife, p_var, kT3_eq, kT2_eq, evVar, tsVar, liftO, liftB, flOf, fzO, okIf, cmp2, rsO, rsOs, unP, truth, lstAt, argV, argVs, slotsOf, argBack, setP, itO, itemsP, setPar, isNonP, kindO, seqOf, ownFz, wipeE, unwipe, consO, enmP, zipP, List.all_cons, List.all_nil, Bool.and_true, Bool.true_and, Bool.and_self, Option.bind_some, Option.map_some, List.getElem?_cons_zero, List.getElem?_cons_succ, List.set_cons_zero, List.set_cons_succ, Option.isSome_some, if_true, if_false, ite_true, ite_false, decide_true, decide_false, Bool.not_true, Bool.not_false, reduceIte, Bool.false_eq_true, sl_scr, c1, blt_list_l, truth_l, List.take_nil, List.map_nil, List.isEmpty_nil, sz0, sz1, sz2, sz3, sz4, sz5, sz6, sz7, sz8, sz9, sz10, sz11, sz12, sz13, sz14, sz15, sz16, sz17, sz18, sz19, sz20]
    rfl
  · refine main (ns.take 3) (by rw [List.length_take]; have := List.length_pos_iff.mpr h; omega) (by rw [List.length_take]; omega) (fun z => by rw [List.length_take]; have := hy3 z; omega) ?_
    have ne : ((ns.take 3).map PV.int).isEmpty = false := by
      cases ns with
      | nil => exact absurd rfl h
      | cons x xs => rfl
    simp only [bd_ok, bd_exc, bd_bad, fo_ok, fo_exc, th_nx, th_ret, th_exc, th_brk, th_cnt, tk_nx, tk_cnt, tk_brk, tk_ret, tk_exc, x_nil, x_seq, kAsg_eq, x_asg, kUnp_eq, x_unp, kPar_eq, x_par, kSet2_eq, kSet1_eq, x_seti, kApp_eq, x_app, kExpr_eq, x_expr, x_ret, x_retN, kIf_eq, x_ife, kLoop_eq, x_loop, x_whl, kWh_eq, x_brk, x_cnt, x_pass, kCl2_eq, kCl1_eq, kTr_eq, kB2_eq, kB1_eq, kU_eq, kTup_eq, kLst_eq, kS2_eq, kS1_eq, kC3_eq, kC2_eq, kC1_eq, kCall_eq, kK2_eq, kK1_eq, kBl_eq, kM2_eq, kM1_eq, kCo_eq, kRg_eq, kEn_eq, kZ2_eq, kZ1_eq, v_int, t_int, v_str, t_str, v_bl, t_bl, v_non, t_non, v_cst, t_cst, v_fnv, t_fnv, v_tyv, t_tyv, v_bin, t_bin, v_un, t_un, v_tup, t_tup, v_lst, t_lst, v_sub, t_sub, v_slc, t_slc, v_call, t_call, v_callk, t_callk, v_blt, t_blt, v_mth, t_mth, v_comp, t_comp, v_rng, t_rng, v_enm, t_enm, v_zip, t_zip, kVb_eq, kQ2_eq, kQ1_eq, kH4_eq, kH3_eq, kH2_eq, kH1_eq, v_cmp, t_cmp, v_chn, t_chn, v_var, t_var, kN2_eq, kN1_eq, kNt_eq, v_not, t_not, kAn_eq, kAt_eq, v_and, t_and, kOn_eq, kOt_eq, v_or, t_or, kIv_eq, kIt_eq, v_ife, t_ife, v_seq, v_no, kOs2_eq, kOs1_eq, os_nil, os_cons, kF2_eq, kF1_eq, f_nil, f_cons, kG2_eq, kG1_eq, kG3_eq, g_nil, g_val, g_slot, kGt_eq, g_tmpc, o_var, kIe_eq, it_ev, p_no, kRt_eq, r_var, kV_eq, kPt_eq, o_int, r_int, p_int, o_str, r_str, p_str, o_bl, r_bl, p_bl, o_non, r_non, p_non, o_cst, r_cst, p_cst, o_fnv, r_fnv, p_fnv, o_tyv, r_tyv, p_tyv, o_bin, r_bin, p_bin, o_un, r_un, p_un, o_tup, r_tup, p_tup, o_lst, r_lst, p_lst, o_sub, r_sub, p_sub, o_slc, r_slc, p_slc, o_call, r_call, p_call, o_callk, r_callk, p_callk, o_blt, r_blt, p_blt, o_mth, r_mth, p_mth, o_comp, r_comp, p_comp, o_rng, r_rng, p_rng, o_enm, r_enm, p_enm, o_zip, r_zip, p_zip, o_cmp, r_cmp, p_cmp, o_chn, r_chn, p_chn, o_not, r_not, p_not, o_and, r_and, p_and, o_or, r_or, p_or, o_ife, r_ife, p_ife, p_var, kT3_eq, kT2_eq, evVar, tsVar, liftO, liftB, flOf, fzO, okIf, cmp2, rsO, rsOs, unP, truth, lstAt, argV, argVs, slotsOf, argBack, setP, itO, itemsP, setPar, isNonP, kindO, seqOf, ownFz, wipeE, unwipe, consO, enmP, zipP, List.all_cons, List.all_nil, Bool.and_true, Bool.true_and, Bool.and_self, Option.bind_some, Option.map_some, List.getElem?_cons_zero, List.getElem?_cons_succ, List.set_cons_zero, List.set_cons_succ, Option.isSome_some, if_true, if_false, ite_true, ite_false, decide_true, decide_false, Bool.not_true, Bool.not_false, reduceIte, Bool.false_eq_true, sl_scr, c1, blt_list_l, truth_l, ne, sz0, sz1, sz2, sz3, sz4, sz5, sz6, sz7, sz8, sz9, sz10, sz11, sz12, sz13, sz14, sz15, sz16, sz17, sz18, sz19, sz20]
end K52

namespace K52
open PySem L2 Bd
structure AskedOk (C : Cal) : Prop where
  sig : C.sig "_law_asked" = some [false, false]
  run : ∀ (t u : Str) (a1 b1 a2 b2 : Int), In a1 b1 → In a2 b2 → C.run "_law_asked" [.tup [.str t, .int a1, .int b1], .tup [.str u, .int a2, .int b2]] = .ok (.bl true, .fz) []
def inB : IS := (.seq (.app 2 (.tup (.cons (.var 3) (.cons (.call "_law_take" (.cons (.var 0) (.cons (.int 5) .nil))) (.cons (.call "_law_of" (.cons (.var 0) (.cons (.lst (.cons (.call "_law_take" (.cons (.var 0) (.cons (.int 6) .nil))) (.cons (.call "_law_take" (.cons (.var 0) (.cons (.int 41) .nil))) .nil))) .nil))) .nil)))))
 .nil)
theorem in_run {C : Cal} (hT : TakeOk C) (hO : OfOk C) {m : Nat} {p : PV} {w : Option (PV × Fl)} {xs : List PV} {t : Str} (hp : Bx (m + 4) p) (hx : xs.length < sizeLine) :
    ∃ (a b : Int) (q : PV), In a b ∧ Bx m q ∧ exec C inB [some (p, .bor), w, some (.lst xs, .own), some (.str t, .fz)] = .nx [some (q, .bor), w, some (.lst (xs ++ [.tup [.str t, .int a, .int b]]), .own), some (.str t, .fz)] := by
  obtain ⟨a, p1, e1, a0, a5, hp1⟩ := hT.run (m + 3) p 5 hp (by decide) (by decide)
  obtain ⟨r, p2, e2, r0, r6, hp2⟩ := hT.run (m + 2) p1 6 hp1 (by decide) (by decide)
  obtain ⟨s, p3, e3, s0, s41, hp3⟩ := hT.run (m + 1) p2 41 hp2 (by decide) (by decide)
  obtain ⟨x, q, hx', hq, e4⟩ := hO.run m p3 [.int r, .int s] hp3 (by show 0 < 2; decide) (by show 2 < 1073741824; decide)
  have hb : ∃ b : Int, x = .int b ∧ 0 ≤ b ∧ b ≤ 40 := by
    rcases List.mem_cons.mp hx' with z | z
    · exact ⟨r, z, r0, by omega⟩
    · rcases List.mem_cons.mp z with z | z
      · exact ⟨s, z, s0, by omega⟩
      · cases z
  obtain ⟨b, rfl, b0, b40⟩ := hb
  refine ⟨a, b, q, ⟨a0, by omega, b0, b40⟩, hq, ?_⟩
  have sT := hT.sig
  have sO := hO.sig
  unfold inB
  simp only [bd_ok, bd_exc, bd_bad, fo_ok, fo_exc, th_nx, th_ret, th_exc, th_brk, th_cnt, tk_nx, tk_cnt, tk_brk, tk_ret, tk_exc, x_nil, x_seq, kAsg_eq, x_asg, kUnp_eq, x_unp, kPar_eq, x_par, kSet2_eq, kSet1_eq, x_seti, kApp_eq, x_app, kExpr_eq, x_expr, x_ret, x_retN, kIf_eq, x_ife, kLoop_eq, x_loop, x_whl, kWh_eq, x_brk, x_cnt, x_pass, kCl2_eq, kCl1_eq, kTr_eq, kB2_eq, kB1_eq, kU_eq, kTup_eq, kLst_eq, kS2_eq, kS1_eq, kC3_eq, kC2_eq, kC1_eq, kCall_eq, kK2_eq, kK1_eq, kBl_eq, kM2_eq, kM1_eq, kCo_eq, kRg_eq, kEn_eq, kZ2_eq, kZ1_eq, v_int, t_int, v_str, t_str, v_bl, t_bl, v_non, t_non, v_cst, t_cst, v_fnv, t_fnv, v_tyv, t_tyv, v_bin, t_bin, v_un, t_un, v_tup, t_tup, v_lst, t_lst, v_sub, t_sub, v_slc, t_slc, v_call, t_call, v_callk, t_callk, v_blt, t_blt, v_mth, t_mth, v_comp, t_comp, v_rng, t_rng, v_enm, t_enm, v_zip, t_zip, kVb_eq, kQ2_eq, kQ1_eq, kH4_eq, kH3_eq, kH2_eq, kH1_eq, v_cmp, t_cmp, v_chn, t_chn, v_var, t_var, kN2_eq, kN1_eq, kNt_eq, v_not, t_not, kAn_eq, kAt_eq, v_and, t_and, kOn_eq, kOt_eq, v_or, t_or, kIv_eq, kIt_eq, v_ife, t_ife, v_seq, v_no, kOs2_eq, kOs1_eq, os_nil, os_cons, kF2_eq, kF1_eq, f_nil, f_cons, kG2_eq, kG1_eq, kG3_eq, g_nil, g_val, g_slot, kGt_eq, g_tmpc, o_var, kIe_eq, it_ev, p_no, kRt_eq, r_var, kV_eq, kPt_eq, o_int, r_int, p_int, o_str, r_str, p_str, o_bl, r_bl, p_bl, o_non, r_non, p_non, o_cst, r_cst, p_cst, o_fnv, r_fnv, p_fnv, o_tyv, r_tyv, p_tyv, o_bin, r_bin, p_bin, o_un, r_un, p_un, o_tup, r_tup, p_tup, o_lst, r_lst, p_lst, o_sub, r_sub, p_sub, o_slc, r_slc, p_slc, o_call, r_call, p_call, o_callk, r_callk, p_callk, o_blt, r_blt, p_blt, o_mth, r_mth, p_mth, o_comp, r_comp, p_comp, o_rng, r_rng, p_rng, o_enm, r_enm, p_enm, o_zip, r_zip, p_zip, o_cmp, r_cmp, p_cmp, o_chn, r_chn, p_chn, o_not, r_not, p_not, o_and, r_and, p_and, o_or, r_or, p_or, o_ife, r_ife, p_ife, p_var, kT3_eq, kT2_eq, evVar, tsVar, liftO, liftB, flOf, fzO, okIf, cmp2, rsO, rsOs, unP, truth, lstAt, argV, argVs, slotsOf, argBack, setP, itO, itemsP, setPar, isNonP, kindO, seqOf, ownFz, wipeE, unwipe, consO, enmP, zipP, List.all_cons, List.all_nil, Bool.and_true, Bool.true_and, Bool.and_self, Option.bind_some, Option.map_some, List.getElem?_cons_zero, List.getElem?_cons_succ, List.set_cons_zero, List.set_cons_succ, Option.isSome_some, if_true, if_false, ite_true, ite_false, decide_true, decide_false, Bool.not_true, Bool.not_false, reduceIte, Bool.false_eq_true, sT, sO, e1, e2, e3, e4, doCall, nd0, nd1, appE, hx, sz0, sz1, sz2, sz3, sz4, sz5, sz6, sz7, sz8, sz9, sz10, sz11, sz12, sz13, sz14, sz15, sz16, sz17, sz18, sz19, sz20]
def lapB : IS := (.seq (.asg 2 (.lst .nil))
 (.seq (.loop (.nm 3) (.seq (.tup (.cons (.str "x") (.cons (.call "_law_of" (.cons (.var 0) (.cons (.lst (.cons (.str "x") (.cons (.str "x") (.cons (.str "x") (.cons (.str "y") .nil))))) .nil))) .nil)))) inB)
 (.seq (.ife (.or (.not (.call "_law_asked" (.cons (.sub (.var 2) (.int 0)) (.cons (.sub (.var 2) (.int 1)) .nil)))) (.not (.call "_law_asked" (.cons (.sub (.var 2) (.int 1)) (.cons (.sub (.var 2) (.int 0)) .nil)))))
 (.seq (.ret (.bl false))
 .nil)
 .nil)
 .nil)))
theorem lap_run {C : Cal} (hT : TakeOk C) (hO : OfOk C) (hA : AskedOk C) {m : Nat} {p : PV} {w u v : Option (PV × Fl)} (hp : Bx (m + 9) p) :
    ∃ (q : PV) (u' v' : Option (PV × Fl)), Bx m q ∧ exec C lapB [some (p, .bor), w, u, v] = .nx [some (q, .bor), w, u', v'] := by
  obtain ⟨x, p1, hx, hp1, e1⟩ := hO.run (m + 8) p [.str "x", .str "x", .str "x", .str "y"] hp (by decide) (by decide)
  have hs : ∃ t : Str, x = .str t := by
    simp only [List.mem_cons, List.not_mem_nil, or_false] at hx
    rcases hx with z | z | z | z <;> exact ⟨_, z⟩
  obtain ⟨t, rfl⟩ := hs
  have sz : (0 : Nat) < sizeLine := by decide +kernel
  have sz' : (1 : Nat) < sizeLine := by decide +kernel
  obtain ⟨a1, b1, p2, i1, hp2, e2⟩ := in_run (w := w) (xs := []) (t := "x") hT hO (m := m + 4) hp1 sz
  obtain ⟨a2, b2, p3, i2, hp3, e3⟩ := in_run (w := w) (xs := [.tup [.str "x", .int a1, .int b1]]) (t := t) hT hO (m := m) hp2 sz'
  have r1 := hA.run "x" t a1 b1 a2 b2 i1 i2
  have r2 := hA.run t "x" a2 b2 a1 b1 i2 i1
  have sO := hO.sig
  have sA := hA.sig
  have fl : forLoop (.nm 3) (exec C inB) [.str "x", .str t] [some (p1, .bor), w, some (.lst [], .own), v] = .nx [some (p3, .bor), w, some (.lst [.tup [.str "x", .int a1, .int b1], .tup [.str t, .int a2, .int b2]], .own), some (.str t, .fz)] := by
    show turnK (forLoop (.nm 3) (exec C inB) [.str t]) (exec C inB [some (p1, .bor), w, some (.lst [], .own), some (.str "x", .fz)]) = _
    rw [e2]
    show turnK (forLoop (.nm 3) (exec C inB) []) (exec C inB [some (p2, .bor), w, some (.lst [.tup [.str "x", .int a1, .int b1]], .own), some (.str t, .fz)]) = _
    rw [e3]; rfl
  refine ⟨p3, some (.lst [.tup [.str "x", .int a1, .int b1], .tup [.str t, .int a2, .int b2]], .own), some (.str t, .fz), hp3, ?_⟩
  unfold lapB
  simp only [bd_ok, bd_exc, bd_bad, fo_ok, fo_exc, th_nx, th_ret, th_exc, th_brk, th_cnt, tk_nx, tk_cnt, tk_brk, tk_ret, tk_exc, x_nil, x_seq, kAsg_eq, x_asg, kUnp_eq, x_unp, kPar_eq, x_par, kSet2_eq, kSet1_eq, x_seti, kApp_eq, x_app, kExpr_eq, x_expr, x_ret, x_retN, kIf_eq, x_ife, kLoop_eq, x_loop, x_whl, kWh_eq, x_brk, x_cnt, x_pass, kCl2_eq, kCl1_eq, kTr_eq, kB2_eq, kB1_eq, kU_eq, kTup_eq, kLst_eq, kS2_eq, kS1_eq, kC3_eq, kC2_eq, kC1_eq, kCall_eq, kK2_eq, kK1_eq, kBl_eq, kM2_eq, kM1_eq, kCo_eq, kRg_eq, kEn_eq, kZ2_eq, kZ1_eq, v_int, t_int, v_str, t_str, v_bl, t_bl, v_non, t_non, v_cst, t_cst, v_fnv, t_fnv, v_tyv, t_tyv, v_bin, t_bin, v_un, t_un, v_tup, t_tup, v_lst, t_lst, v_sub, t_sub, v_slc, t_slc, v_call, t_call, v_callk, t_callk, v_blt, t_blt, v_mth, t_mth, v_comp, t_comp, v_rng, t_rng, v_enm, t_enm, v_zip, t_zip, kVb_eq, kQ2_eq, kQ1_eq, kH4_eq, kH3_eq, kH2_eq, kH1_eq, v_cmp, t_cmp, v_chn, t_chn, v_var, t_var, kN2_eq, kN1_eq, kNt_eq, v_not, t_not, kAn_eq, kAt_eq, v_and, t_and, kOn_eq, kOt_eq, v_or, t_or, kIv_eq, kIt_eq, v_ife, t_ife, v_seq, v_no, kOs2_eq, kOs1_eq, os_nil, os_cons, kF2_eq, kF1_eq, f_nil, f_cons, kG2_eq, kG1_eq, kG3_eq, g_nil, g_val, g_slot, kGt_eq, g_tmpc, o_var, kIe_eq, it_ev, p_no, kRt_eq, r_var, kV_eq, kPt_eq, o_int, r_int, p_int, o_str, r_str, p_str, o_bl, r_bl, p_bl, o_non, r_non, p_non, o_cst, r_cst, p_cst, o_fnv, r_fnv, p_fnv, o_tyv, r_tyv, p_tyv, o_bin, r_bin, p_bin, o_un, r_un, p_un, o_tup, r_tup, p_tup, o_lst, r_lst, p_lst, o_sub, r_sub, p_sub, o_slc, r_slc, p_slc, o_call, r_call, p_call, o_callk, r_callk, p_callk, o_blt, r_blt, p_blt, o_mth, r_mth, p_mth, o_comp, r_comp, p_comp, o_rng, r_rng, p_rng, o_enm, r_enm, p_enm, o_zip, r_zip, p_zip, o_cmp, r_cmp, p_cmp, o_chn, r_chn, p_chn, o_not, r_not, p_not, o_and, r_and, p_and, o_or, r_or, p_or, o_ife, r_ife, p_ife, p_var, kT3_eq, kT2_eq, evVar, tsVar, liftO, liftB, flOf, fzO, okIf, cmp2, rsO, rsOs, unP, truth, lstAt, argV, argVs, slotsOf, argBack, setP, itO, itemsP, setPar, isNonP, kindO, seqOf, ownFz, wipeE, unwipe, consO, enmP, zipP, List.all_cons, List.all_nil, Bool.and_true, Bool.true_and, Bool.and_self, Option.bind_some, Option.map_some, List.getElem?_cons_zero, List.getElem?_cons_succ, List.set_cons_zero, List.set_cons_succ, Option.isSome_some, if_true, if_false, ite_true, ite_false, decide_true, decide_false, Bool.not_true, Bool.not_false, reduceIte, Bool.false_eq_true, sO, sA, e1, fl, doCall, nd0, nd1, ix_lst, at2_0, at2_1, r1, r2, truth_b, sz0, sz1, sz2, sz3, sz4, sz5, sz6, sz7, sz8, sz9, sz10, sz11, sz12, sz13, sz14, sz15, sz16, sz17, sz18, sz19, sz20]
theorem laps {C : Cal} (hT : TakeOk C) (hO : OfOk C) (hA : AskedOk C) : ∀ (ks : List Int) (m : Nat) (p : PV) (w u v : Option (PV × Fl)), Bx (m + 9 * ks.length) p →
    ∃ (q : PV) (w' u' v' : Option (PV × Fl)), Bx m q ∧ forLoop (.nm 1) (exec C lapB) (ks.map PV.int) [some (p, .bor), w, u, v] = .nx [some (q, .bor), w', u', v']
  | [], m, p, w, u, v, hp => ⟨p, w, u, v, hp, rfl⟩
  | k :: ks, m, p, w, u, v, hp => by
    obtain ⟨p1, u1, v1, hp1, e1⟩ := lap_run (w := some (.int k, .fz)) (u := u) (v := v) hT hO hA (m := m + 9 * ks.length) (p := p) (hp.mono (by simp; omega))
    obtain ⟨q, w', u', v', hq, e2⟩ := laps hT hO hA ks m p1 (some (.int k, .fz)) u1 v1 hp1
    refine ⟨q, w', u', v', hq, ?_⟩
    show turnK (forLoop (.nm 1) (exec C lapB) (ks.map PV.int)) (exec C lapB [some (p, .bor), some (.int k, .fz), u, v]) = _
    rw [e1, tk_nx, e2]
theorem rngP_5 : rngP [.int 5] = some ((upTo 5).map PV.int) := by
  show some (rngItems 0 ((5 : Nat) : Int)) = _
  rw [rng_up]
theorem right_run {C : Cal} (hT : TakeOk C) (hO : OfOk C) (hA : AskedOk C) {p : PV} (hp : Bx 45 p) : ∃ q : PV, runF C (some d__law_right) [p] = .ok (.bl true, .fz) [q] := by
  obtain ⟨q, w, u, v, hq, e⟩ := laps hT hO hA (upTo 5) 0 p none none none hp
  refine ⟨q, ?_⟩
  show finish [true] (exec C (.seq (.loop (.nm 1) (.rng (.cons (.int 5) .nil)) lapB) (.seq (.ret (.bl true)) .nil)) [some (p, .bor), none, none, none]) = _
  have ee : exec C (.seq (.loop (.nm 1) (.rng (.cons (.int 5) .nil)) lapB) (.seq (.ret (.bl true)) .nil)) [some (p, .bor), none, none, none] = .ret (.bl true, .fz) [some (q, .bor), w, u, v] := by
    simp only [bd_ok, bd_exc, bd_bad, fo_ok, fo_exc, th_nx, th_ret, th_exc, th_brk, th_cnt, tk_nx, tk_cnt, tk_brk, tk_ret, tk_exc, x_nil, x_seq, kAsg_eq, x_asg, kUnp_eq, x_unp, kPar_eq, x_par, kSet2_eq, kSet1_eq, x_seti, kApp_eq, x_app, kExpr_eq, x_expr, x_ret, x_retN, kIf_eq, x_ife, kLoop_eq, x_loop, x_whl, kWh_eq, x_brk, x_cnt, x_pass, kCl2_eq, kCl1_eq, kTr_eq, kB2_eq, kB1_eq, kU_eq, kTup_eq, kLst_eq, kS2_eq, kS1_eq, kC3_eq, kC2_eq, kC1_eq, kCall_eq, kK2_eq, kK1_eq, kBl_eq, kM2_eq, kM1_eq, kCo_eq, kRg_eq, kEn_eq, kZ2_eq, kZ1_eq, v_int, t_int, v_str, t_str, v_bl, t_bl, v_non, t_non, v_cst, t_cst, v_fnv, t_fnv, v_tyv, t_tyv, v_bin, t_bin, v_un, t_un, v_tup, t_tup, v_lst, t_lst, v_sub, t_sub, v_slc, t_slc, v_call, t_call, v_callk, t_callk, v_blt, t_blt, v_mth, t_mth, v_comp, t_comp, v_rng, t_rng, v_enm, t_enm, v_zip, t_zip, kVb_eq, kQ2_eq, kQ1_eq, kH4_eq, kH3_eq, kH2_eq, kH1_eq, v_cmp, t_cmp, v_chn, t_chn, v_var, t_var, kN2_eq, kN1_eq, kNt_eq, v_not, t_not, kAn_eq, kAt_eq, v_and, t_and, kOn_eq, kOt_eq, v_or, t_or, kIv_eq, kIt_eq, v_ife, t_ife, v_seq, v_no, kOs2_eq, kOs1_eq, os_nil, os_cons, kF2_eq, kF1_eq, f_nil, f_cons, kG2_eq, kG1_eq, kG3_eq, g_nil, g_val, g_slot, kGt_eq, g_tmpc, o_var, kIe_eq, it_ev, p_no, kRt_eq, r_var, kV_eq, kPt_eq, o_int, r_int, p_int, o_str, r_str, p_str, o_bl, r_bl, p_bl, o_non, r_non, p_non, o_cst, r_cst, p_cst, o_fnv, r_fnv, p_fnv, o_tyv, r_tyv, p_tyv, o_bin, r_bin, p_bin, o_un, r_un, p_un, o_tup, r_tup, p_tup, o_lst, r_lst, p_lst, o_sub, r_sub, p_sub, o_slc, r_slc, p_slc, o_call, r_call, p_call, o_callk, r_callk, p_callk, o_blt, r_blt, p_blt, o_mth, r_mth, p_mth, o_comp, r_comp, p_comp, o_rng, r_rng, p_rng, o_enm, r_enm, p_enm, o_zip, r_zip, p_zip, o_cmp, r_cmp, p_cmp, o_chn, r_chn, p_chn, o_not, r_not, p_not, o_and, r_and, p_and, o_or, r_or, p_or, o_ife, r_ife, p_ife, p_var, kT3_eq, kT2_eq, evVar, tsVar, liftO, liftB, flOf, fzO, okIf, cmp2, rsO, rsOs, unP, truth, lstAt, argV, argVs, slotsOf, argBack, setP, itO, itemsP, setPar, isNonP, kindO, seqOf, ownFz, wipeE, unwipe, consO, enmP, zipP, List.all_cons, List.all_nil, Bool.and_true, Bool.true_and, Bool.and_self, Option.bind_some, Option.map_some, List.getElem?_cons_zero, List.getElem?_cons_succ, List.set_cons_zero, List.set_cons_succ, Option.isSome_some, if_true, if_false, ite_true, ite_false, decide_true, decide_false, Bool.not_true, Bool.not_false, reduceIte, Bool.false_eq_true, rngP_5, e, sz0, sz1, sz2, sz3, sz4, sz5, sz6, sz7, sz8, sz9, sz10, sz11, sz12, sz13, sz14, sz15, sz16, sz17, sz18, sz19, sz20]
  rw [ee]; rfl
theorem rng_one (j : Int) (h1 : -(2 ^ 62) ≤ j) (h2 : j < 2 ^ 62) : rngP [.int j] = some (rngItems 0 j) := by
  show (if -(2 ^ 62) ≤ j ∧ j < 2 ^ 62 then some (rngItems 0 j) else none) = _
  rw [if_pos ⟨h1, h2⟩]
structure LawC (C : Cal) : Prop where
  s1 : C.sig "_law_cells" = some [false, false]
  s2 : C.sig "_law_by_hand_right" = some []
  s3 : C.sig "_law_right" = some [true]
  s4 : C.sig "_law_box" = some [false, false]
  r1 : ∀ ns : List Int, ns.length ≤ 63 → ∃ rs : List Int, 0 < rs.length ∧ rs.length ≤ 3 ∧ C.run "_law_cells" [.scr (ns.map PV.int), .int 3] = .ok (.lst (rs.map PV.int), .own) []
  r2 : C.run "_law_by_hand_right" [] = .ok (.bl true, .fz) []
  r3 : ∀ p : PV, Bx 45 p → ∃ q : PV, C.run "_law_right" [p] = .ok (.bl true, .fz) [q]
  r4 : ∀ (rs : List PV) (k g : Int), 0 ≤ k → k < rs.length → atI rs k = some (.int g) → ∃ x y : Int, C.run "_law_box" [.lst rs, .int k] = .ok (.lst [.int x, .int y, .int 0], .own) []
def eltB : IE := (.call "_law_right" (.cons (.call "_law_box" (.cons (.var 1) (.cons (.var 2) .nil))) .nil))
theorem law_loop {C : Cal} (h : LawC C) {s : PV} {rs : List Int} : ∀ (ks : List Int), (∀ k ∈ ks, 0 ≤ k ∧ k < rs.length) → ∀ fl : Fl, fl = .own ∨ fl = .fz →
    ∃ fl', compLoop (compTurnE [2] (.nm 2) (ev C .no).2 (ev C eltB).1) (ks.map PV.int) [some (s, .fz), some (.lst (rs.map PV.int), fl), none] = .ok (ks.map fun _ => PV.bl true) [some (s, .fz), some (.lst (rs.map PV.int), fl'), none]
  | [], _, fl, _ => ⟨fl, rfl⟩
  | k :: ks, hk, fl, hf => by
    obtain ⟨k0, k1⟩ := hk k (List.mem_cons_self ..)
    obtain ⟨g, hg, _⟩ := at_map (fs := rs) k0 k1
    obtain ⟨x, y, e4⟩ := h.r4 _ k g k0 (by rw [List.length_map]; exact k1) hg
    obtain ⟨q, e3⟩ := h.r3 (.lst [.int x, .int y, .int 0]) ⟨x, y, 0, rfl, by decide, by decide⟩
    obtain ⟨fl', ih⟩ := law_loop h ks (fun j hj => hk j (List.mem_cons_of_mem _ hj)) .fz (.inr rfl)
    have s3 := h.s3
    have s4 := h.s4
    have st : ∀ f : Fl, setG (.nm 2) (.int k) [some (s, .fz), some (.lst (rs.map PV.int), f), none] = some [some (s, .fz), some (.lst (rs.map PV.int), f), some (.int k, .fz)] := fun f => rfl
    have tn : compTurnE [2] (.nm 2) (ev C .no).2 (ev C eltB).1 (.int k) [some (s, .fz), some (.lst (rs.map PV.int), fl), none] = .ok (some (.bl true)) [some (s, .fz), some (.lst (rs.map PV.int), .fz), none] := by
      unfold eltB
      rcases hf with rfl | rfl
      · simp only [bd_ok, bd_exc, bd_bad, fo_ok, fo_exc, th_nx, th_ret, th_exc, th_brk, th_cnt, tk_nx, tk_cnt, tk_brk, tk_ret, tk_exc, x_nil, x_seq, kAsg_eq, x_asg, kUnp_eq, x_unp, kPar_eq, x_par, kSet2_eq, kSet1_eq, x_seti, kApp_eq, x_app, kExpr_eq, x_expr, x_ret, x_retN, kIf_eq, x_ife, kLoop_eq, x_loop, x_whl, kWh_eq, x_brk, x_cnt, x_pass, kCl2_eq, kCl1_eq, kTr_eq, kB2_eq, kB1_eq, kU_eq, kTup_eq, kLst_eq, kS2_eq, kS1_eq, kC3_eq, kC2_eq, kC1_eq, kCall_eq, kK2_eq, kK1_eq, kBl_eq, kM2_eq, kM1_eq, kCo_eq, kRg_eq, kEn_eq, kZ2_eq, kZ1_eq, v_int, t_int, v_str, t_str, v_bl, t_bl, v_non, t_non, v_cst, t_cst, v_fnv, t_fnv, v_tyv, t_tyv, v_bin, t_bin, v_un, t_un, v_tup, t_tup, v_lst, t_lst, v_sub, t_sub, v_slc, t_slc, v_call, t_call, v_callk, t_callk, v_blt, t_blt, v_mth, t_mth, v_comp, t_comp, v_rng, t_rng, v_enm, t_enm, v_zip, t_zip, kVb_eq, kQ2_eq, kQ1_eq, kH4_eq, kH3_eq, kH2_eq, kH1_eq, v_cmp, t_cmp, v_chn, t_chn, v_var, t_var, kN2_eq, kN1_eq, kNt_eq, v_not, t_not, kAn_eq, kAt_eq, v_and, t_and, kOn_eq, kOt_eq, v_or, t_or, kIv_eq, kIt_eq, v_ife, t_ife, v_seq, v_no, kOs2_eq, kOs1_eq, os_nil, os_cons, kF2_eq, kF1_eq, f_nil, f_cons, kG2_eq, kG1_eq, kG3_eq, g_nil, g_val, g_slot, kGt_eq, g_tmpc, o_var, kIe_eq, it_ev, p_no, kRt_eq, r_var, kV_eq, kPt_eq, o_int, r_int, p_int, o_str, r_str, p_str, o_bl, r_bl, p_bl, o_non, r_non, p_non, o_cst, r_cst, p_cst, o_fnv, r_fnv, p_fnv, o_tyv, r_tyv, p_tyv, o_bin, r_bin, p_bin, o_un, r_un, p_un, o_tup, r_tup, p_tup, o_lst, r_lst, p_lst, o_sub, r_sub, p_sub, o_slc, r_slc, p_slc, o_call, r_call, p_call, o_callk, r_callk, p_callk, o_blt, r_blt, p_blt, o_mth, r_mth, p_mth, o_comp, r_comp, p_comp, o_rng, r_rng, p_rng, o_enm, r_enm, p_enm, o_zip, r_zip, p_zip, o_cmp, r_cmp, p_cmp, o_chn, r_chn, p_chn, o_not, r_not, p_not, o_and, r_and, p_and, o_or, r_or, p_or, o_ife, r_ife, p_ife, p_var, kT3_eq, kT2_eq, evVar, tsVar, liftO, liftB, flOf, fzO, okIf, cmp2, rsO, rsOs, unP, truth, lstAt, argV, argVs, slotsOf, argBack, setP, itO, itemsP, setPar, isNonP, kindO, seqOf, ownFz, wipeE, unwipe, consO, enmP, zipP, List.all_cons, List.all_nil, Bool.and_true, Bool.true_and, Bool.and_self, Option.bind_some, Option.map_some, List.getElem?_cons_zero, List.getElem?_cons_succ, List.set_cons_zero, List.set_cons_succ, Option.isSome_some, if_true, if_false, ite_true, ite_false, decide_true, decide_false, Bool.not_true, Bool.not_false, reduceIte, Bool.false_eq_true, ct_eq, kT2_eq, kT3_eq, st, s3, s4, e3, e4, doCall, nd0, sz0, sz1, sz2, sz3, sz4, sz5, sz6, sz7, sz8, sz9, sz10, sz11, sz12, sz13, sz14, sz15, sz16, sz17, sz18, sz19, sz20]
      · simp only [bd_ok, bd_exc, bd_bad, fo_ok, fo_exc, th_nx, th_ret, th_exc, th_brk, th_cnt, tk_nx, tk_cnt, tk_brk, tk_ret, tk_exc, x_nil, x_seq, kAsg_eq, x_asg, kUnp_eq, x_unp, kPar_eq, x_par, kSet2_eq, kSet1_eq, x_seti, kApp_eq, x_app, kExpr_eq, x_expr, x_ret, x_retN, kIf_eq, x_ife, kLoop_eq, x_loop, x_whl, kWh_eq, x_brk, x_cnt, x_pass, kCl2_eq, kCl1_eq, kTr_eq, kB2_eq, kB1_eq, kU_eq, kTup_eq, kLst_eq, kS2_eq, kS1_eq, kC3_eq, kC2_eq, kC1_eq, kCall_eq, kK2_eq, kK1_eq, kBl_eq, kM2_eq, kM1_eq, kCo_eq, kRg_eq, kEn_eq, kZ2_eq, kZ1_eq, v_int, t_int, v_str, t_str, v_bl, t_bl, v_non, t_non, v_cst, t_cst, v_fnv, t_fnv, v_tyv, t_tyv, v_bin, t_bin, v_un, t_un, v_tup, t_tup, v_lst, t_lst, v_sub, t_sub, v_slc, t_slc, v_call, t_call, v_callk, t_callk, v_blt, t_blt, v_mth, t_mth, v_comp, t_comp, v_rng, t_rng, v_enm, t_enm, v_zip, t_zip, kVb_eq, kQ2_eq, kQ1_eq, kH4_eq, kH3_eq, kH2_eq, kH1_eq, v_cmp, t_cmp, v_chn, t_chn, v_var, t_var, kN2_eq, kN1_eq, kNt_eq, v_not, t_not, kAn_eq, kAt_eq, v_and, t_and, kOn_eq, kOt_eq, v_or, t_or, kIv_eq, kIt_eq, v_ife, t_ife, v_seq, v_no, kOs2_eq, kOs1_eq, os_nil, os_cons, kF2_eq, kF1_eq, f_nil, f_cons, kG2_eq, kG1_eq, kG3_eq, g_nil, g_val, g_slot, kGt_eq, g_tmpc, o_var, kIe_eq, it_ev, p_no, kRt_eq, r_var, kV_eq, kPt_eq, o_int, r_int, p_int, o_str, r_str, p_str, o_bl, r_bl, p_bl, o_non, r_non, p_non, o_cst, r_cst, p_cst, o_fnv, r_fnv, p_fnv, o_tyv, r_tyv, p_tyv, o_bin, r_bin, p_bin, o_un, r_un, p_un, o_tup, r_tup, p_tup, o_lst, r_lst, p_lst, o_sub, r_sub, p_sub, o_slc, r_slc, p_slc, o_call, r_call, p_call, o_callk, r_callk, p_callk, o_blt, r_blt, p_blt, o_mth, r_mth, p_mth, o_comp, r_comp, p_comp, o_rng, r_rng, p_rng, o_enm, r_enm, p_enm, o_zip, r_zip, p_zip, o_cmp, r_cmp, p_cmp, o_chn, r_chn, p_chn, o_not, r_not, p_not, o_and, r_and, p_and, o_or, r_or, p_or, o_ife, r_ife, p_ife, p_var, kT3_eq, kT2_eq, evVar, tsVar, liftO, liftB, flOf, fzO, okIf, cmp2, rsO, rsOs, unP, truth, lstAt, argV, argVs, slotsOf, argBack, setP, itO, itemsP, setPar, isNonP, kindO, seqOf, ownFz, wipeE, unwipe, consO, enmP, zipP, List.all_cons, List.all_nil, Bool.and_true, Bool.true_and, Bool.and_self, Option.bind_some, Option.map_some, List.getElem?_cons_zero, List.getElem?_cons_succ, List.set_cons_zero, List.set_cons_succ, Option.isSome_some, if_true, if_false, ite_true, ite_false, decide_true, decide_false, Bool.not_true, Bool.not_false, reduceIte, Bool.false_eq_true, ct_eq, kT2_eq, kT3_eq, st, s3, s4, e3, e4, doCall, nd0, sz0, sz1, sz2, sz3, sz4, sz5, sz6, sz7, sz8, sz9, sz10, sz11, sz12, sz13, sz14, sz15, sz16, sz17, sz18, sz19, sz20]
    refine ⟨fl', ?_⟩
    rw [List.map_cons, cl_cons, tn, bd_ok, kCl1_eq, ih]
    rfl
theorem up_in (n : Nat) : ∀ k ∈ upTo n, 0 ≤ k ∧ k < (n : Int) := fun k hk => by
  unfold upTo at hk
  obtain ⟨j, hj, rfl⟩ := List.mem_map.mp hk
  have := List.mem_range.mp hj
  omega
theorem rng_len {rs : List Int} (h : rs.length ≤ 3) : rngP [.int ((rs.map PV.int).length : Int)] = some ((upTo rs.length).map PV.int) := by
  rw [List.length_map]
  have h1 : -(2 ^ 62) ≤ (rs.length : Int) := Int.le_trans (by decide) (Int.natCast_nonneg _)
  have h2 : (rs.length : Int) < 2 ^ 62 := Int.lt_of_le_of_lt (Int.ofNat_le.mpr h) (by decide)
  rw [rng_one _ h1 h2, rng_up]
theorem up_size {n : Nat} (h : n ≤ 3) : ((upTo n).map fun _ => PV.bl true).length ≤ sizeLine := by
  rw [List.length_map]
  unfold upTo
  rw [List.length_map, List.length_range]
  exact Nat.le_trans h (by decide +kernel)
theorem compEnd_ok (own : List Nat) (e1 e2 : En) (ys : List PV) : compEnd own e1 (.ok ys e2) = if ys.length ≤ sizeLine then .ok (.lst ys, .own) (unwipe e1 own e2) else .bad := rfl
theorem rng_end {p : PV} {xs : List PV} (e : En) (h : rngP [p] = some xs) : (fzO ((rsOs e [.val p]).bind fun ps => (rngP ps).map .lst) e).bind kIe = .ok xs e := by
  have h1 : ((rsOs e [.val p]).bind fun ps => (rngP ps).map PV.lst) = some (.lst xs) := by
    have h2 : rsOs e [.val p] = some [p] := rfl
    rw [h2, Option.bind_some, h, Option.map_some]
  rw [h1]; rfl
theorem law_exec {C : Cal} (h : LawC C) (ns : List Int) (hn : ns.length ≤ 63) : ∃ u : Option (PV × Fl), exec C d_law.body [some (.scr (ns.map PV.int), .fz), none, none] = .ret (.bl true, .fz) [some (.scr (ns.map PV.int), .fz), u, none] := by
  obtain ⟨rs, r0, r3, e1⟩ := h.r1 ns hn
  have s1 := h.s1
  have s2 := h.s2
  have e2 := h.r2
  obtain ⟨fl, hl⟩ := law_loop h (s := .scr (ns.map PV.int)) (upTo rs.length) (up_in _) .own (.inl rfl)
  unfold eltB at hl
  have hr := rng_len r3
  have hs := up_size r3
  have x1 : exec C (.asg 1 (.call "_law_cells" (.cons (.var 0) (.cons (.int 3) .nil)))) [some (.scr (ns.map PV.int), .fz), none, none] = .nx [some (.scr (ns.map PV.int), .fz), some (.lst (rs.map PV.int), .own), none] := by
    simp only [bd_ok, bd_exc, bd_bad, fo_ok, fo_exc, th_nx, th_ret, th_exc, th_brk, th_cnt, tk_nx, tk_cnt, tk_brk, tk_ret, tk_exc, x_nil, x_seq, kAsg_eq, x_asg, kUnp_eq, x_unp, kPar_eq, x_par, kSet2_eq, kSet1_eq, x_seti, kApp_eq, x_app, kExpr_eq, x_expr, x_ret, x_retN, kIf_eq, x_ife, kLoop_eq, x_loop, x_whl, kWh_eq, x_brk, x_cnt, x_pass, kCl2_eq, kCl1_eq, kTr_eq, kB2_eq, kB1_eq, kU_eq, kTup_eq, kLst_eq, kS2_eq, kS1_eq, kC3_eq, kC2_eq, kC1_eq, kCall_eq, kK2_eq, kK1_eq, kBl_eq, kM2_eq, kM1_eq, kCo_eq, kRg_eq, kEn_eq, kZ2_eq, kZ1_eq, v_int, t_int, v_str, t_str, v_bl, t_bl, v_non, t_non, v_cst, t_cst, v_fnv, t_fnv, v_tyv, t_tyv, v_bin, t_bin, v_un, t_un, v_tup, t_tup, v_lst, t_lst, v_sub, t_sub, v_slc, t_slc, v_call, t_call, v_callk, t_callk, v_blt, t_blt, v_mth, t_mth, v_comp, t_comp, v_rng, t_rng, v_enm, t_enm, v_zip, t_zip, kVb_eq, kQ2_eq, kQ1_eq, kH4_eq, kH3_eq, kH2_eq, kH1_eq, v_cmp, t_cmp, v_chn, t_chn, v_var, t_var, kN2_eq, kN1_eq, kNt_eq, v_not, t_not, kAn_eq, kAt_eq, v_and, t_and, kOn_eq, kOt_eq, v_or, t_or, kIv_eq, kIt_eq, v_ife, t_ife, v_seq, v_no, kOs2_eq, kOs1_eq, os_nil, os_cons, kF2_eq, kF1_eq, f_nil, f_cons, kG2_eq, kG1_eq, kG3_eq, g_nil, g_val, g_slot, kGt_eq, g_tmpc, o_var, kIe_eq, it_ev, p_no, kRt_eq, r_var, kV_eq, kPt_eq, o_int, r_int, p_int, o_str, r_str, p_str, o_bl, r_bl, p_bl, o_non, r_non, p_non, o_cst, r_cst, p_cst, o_fnv, r_fnv, p_fnv, o_tyv, r_tyv, p_tyv, o_bin, r_bin, p_bin, o_un, r_un, p_un, o_tup, r_tup, p_tup, o_lst, r_lst, p_lst, o_sub, r_sub, p_sub, o_slc, r_slc, p_slc, o_call, r_call, p_call, o_callk, r_callk, p_callk, o_blt, r_blt, p_blt, o_mth, r_mth, p_mth, o_comp, r_comp, p_comp, o_rng, r_rng, p_rng, o_enm, r_enm, p_enm, o_zip, r_zip, p_zip, o_cmp, r_cmp, p_cmp, o_chn, r_chn, p_chn, o_not, r_not, p_not, o_and, r_and, p_and, o_or, r_or, p_or, o_ife, r_ife, p_ife, p_var, kT3_eq, kT2_eq, evVar, tsVar, liftO, liftB, flOf, fzO, okIf, cmp2, rsO, rsOs, unP, truth, lstAt, argV, argVs, slotsOf, argBack, setP, itO, itemsP, setPar, isNonP, kindO, seqOf, ownFz, wipeE, unwipe, consO, enmP, zipP, List.all_cons, List.all_nil, Bool.and_true, Bool.true_and, Bool.and_self, Option.bind_some, Option.map_some, List.getElem?_cons_zero, List.getElem?_cons_succ, List.set_cons_zero, List.set_cons_succ, Option.isSome_some, if_true, if_false, ite_true, ite_false, decide_true, decide_false, Bool.not_true, Bool.not_false, reduceIte, Bool.false_eq_true, s1, e1, doCall, nd0, sz0, sz1, sz2, sz3, sz4, sz5, sz6, sz7, sz8, sz9, sz10, sz11, sz12, sz13, sz14, sz15, sz16, sz17, sz18, sz19, sz20]
  have x2 : (ev C (.call "_law_by_hand_right" .nil)).1 [some (.scr (ns.map PV.int), .fz), some (.lst (rs.map PV.int), .own), none] = .ok (.bl true, .fz) [some (.scr (ns.map PV.int), .fz), some (.lst (rs.map PV.int), .own), none] := by
    simp only [bd_ok, bd_exc, bd_bad, fo_ok, fo_exc, th_nx, th_ret, th_exc, th_brk, th_cnt, tk_nx, tk_cnt, tk_brk, tk_ret, tk_exc, x_nil, x_seq, kAsg_eq, x_asg, kUnp_eq, x_unp, kPar_eq, x_par, kSet2_eq, kSet1_eq, x_seti, kApp_eq, x_app, kExpr_eq, x_expr, x_ret, x_retN, kIf_eq, x_ife, kLoop_eq, x_loop, x_whl, kWh_eq, x_brk, x_cnt, x_pass, kCl2_eq, kCl1_eq, kTr_eq, kB2_eq, kB1_eq, kU_eq, kTup_eq, kLst_eq, kS2_eq, kS1_eq, kC3_eq, kC2_eq, kC1_eq, kCall_eq, kK2_eq, kK1_eq, kBl_eq, kM2_eq, kM1_eq, kCo_eq, kRg_eq, kEn_eq, kZ2_eq, kZ1_eq, v_int, t_int, v_str, t_str, v_bl, t_bl, v_non, t_non, v_cst, t_cst, v_fnv, t_fnv, v_tyv, t_tyv, v_bin, t_bin, v_un, t_un, v_tup, t_tup, v_lst, t_lst, v_sub, t_sub, v_slc, t_slc, v_call, t_call, v_callk, t_callk, v_blt, t_blt, v_mth, t_mth, v_comp, t_comp, v_rng, t_rng, v_enm, t_enm, v_zip, t_zip, kVb_eq, kQ2_eq, kQ1_eq, kH4_eq, kH3_eq, kH2_eq, kH1_eq, v_cmp, t_cmp, v_chn, t_chn, v_var, t_var, kN2_eq, kN1_eq, kNt_eq, v_not, t_not, kAn_eq, kAt_eq, v_and, t_and, kOn_eq, kOt_eq, v_or, t_or, kIv_eq, kIt_eq, v_ife, t_ife, v_seq, v_no, kOs2_eq, kOs1_eq, os_nil, os_cons, kF2_eq, kF1_eq, f_nil, f_cons, kG2_eq, kG1_eq, kG3_eq, g_nil, g_val, g_slot, kGt_eq, g_tmpc, o_var, kIe_eq, it_ev, p_no, kRt_eq, r_var, kV_eq, kPt_eq, o_int, r_int, p_int, o_str, r_str, p_str, o_bl, r_bl, p_bl, o_non, r_non, p_non, o_cst, r_cst, p_cst, o_fnv, r_fnv, p_fnv, o_tyv, r_tyv, p_tyv, o_bin, r_bin, p_bin, o_un, r_un, p_un, o_tup, r_tup, p_tup, o_lst, r_lst, p_lst, o_sub, r_sub, p_sub, o_slc, r_slc, p_slc, o_call, r_call, p_call, o_callk, r_callk, p_callk, o_blt, r_blt, p_blt, o_mth, r_mth, p_mth, o_comp, r_comp, p_comp, o_rng, r_rng, p_rng, o_enm, r_enm, p_enm, o_zip, r_zip, p_zip, o_cmp, r_cmp, p_cmp, o_chn, r_chn, p_chn, o_not, r_not, p_not, o_and, r_and, p_and, o_or, r_or, p_or, o_ife, r_ife, p_ife, p_var, kT3_eq, kT2_eq, evVar, tsVar, liftO, liftB, flOf, fzO, okIf, cmp2, rsO, rsOs, unP, truth, lstAt, argV, argVs, slotsOf, argBack, setP, itO, itemsP, setPar, isNonP, kindO, seqOf, ownFz, wipeE, unwipe, consO, enmP, zipP, List.all_cons, List.all_nil, Bool.and_true, Bool.true_and, Bool.and_self, Option.bind_some, Option.map_some, List.getElem?_cons_zero, List.getElem?_cons_succ, List.set_cons_zero, List.set_cons_succ, Option.isSome_some, if_true, if_false, ite_true, ite_false, decide_true, decide_false, Bool.not_true, Bool.not_false, reduceIte, Bool.false_eq_true, s2, e2, doCall, nd0, sz0, sz1, sz2, sz3, sz4, sz5, sz6, sz7, sz8, sz9, sz10, sz11, sz12, sz13, sz14, sz15, sz16, sz17, sz18, sz19, sz20]
  have x3 : evIt C (.rng (.cons (.blt .len (.cons (.var 1) .nil)) .nil)) [some (.scr (ns.map PV.int), .fz), some (.lst (rs.map PV.int), .own), none] = .ok ((upTo rs.length).map PV.int) [some (.scr (ns.map PV.int), .fz), some (.lst (rs.map PV.int), .own), none] := by
    have y : evOs C (.cons (.blt .len (.cons (.var 1) .nil)) .nil) [some (.scr (ns.map PV.int), .fz), some (.lst (rs.map PV.int), .own), none] = .ok [.val (.int ((rs.map PV.int).length : Int))] [some (.scr (ns.map PV.int), .fz), some (.lst (rs.map PV.int), .own), none] := by
      simp only [bd_ok, bd_exc, bd_bad, fo_ok, fo_exc, th_nx, th_ret, th_exc, th_brk, th_cnt, tk_nx, tk_cnt, tk_brk, tk_ret, tk_exc, x_nil, x_seq, kAsg_eq, x_asg, kUnp_eq, x_unp, kPar_eq, x_par, kSet2_eq, kSet1_eq, x_seti, kApp_eq, x_app, kExpr_eq, x_expr, x_ret, x_retN, kIf_eq, x_ife, kLoop_eq, x_loop, x_whl, kWh_eq, x_brk, x_cnt, x_pass, kCl2_eq, kCl1_eq, kTr_eq, kB2_eq, kB1_eq, kU_eq, kTup_eq, kLst_eq, kS2_eq, kS1_eq, kC3_eq, kC2_eq, kC1_eq, kCall_eq, kK2_eq, kK1_eq, kBl_eq, kM2_eq, kM1_eq, kCo_eq, kRg_eq, kEn_eq, kZ2_eq, kZ1_eq, v_int, t_int, v_str, t_str, v_bl, t_bl, v_non, t_non, v_cst, t_cst, v_fnv, t_fnv, v_tyv, t_tyv, v_bin, t_bin, v_un, t_un, v_tup, t_tup, v_lst, t_lst, v_sub, t_sub, v_slc, t_slc, v_call, t_call, v_callk, t_callk, v_blt, t_blt, v_mth, t_mth, v_comp, t_comp, v_rng, t_rng, v_enm, t_enm, v_zip, t_zip, kVb_eq, kQ2_eq, kQ1_eq, kH4_eq, kH3_eq, kH2_eq, kH1_eq, v_cmp, t_cmp, v_chn, t_chn, v_var, t_var, kN2_eq, kN1_eq, kNt_eq, v_not, t_not, kAn_eq, kAt_eq, v_and, t_and, kOn_eq, kOt_eq, v_or, t_or, kIv_eq, kIt_eq, v_ife, t_ife, v_seq, v_no, kOs2_eq, kOs1_eq, os_nil, os_cons, kF2_eq, kF1_eq, f_nil, f_cons, kG2_eq, kG1_eq, kG3_eq, g_nil, g_val, g_slot, kGt_eq, g_tmpc, o_var, kIe_eq, it_ev, p_no, kRt_eq, r_var, kV_eq, kPt_eq, o_int, r_int, p_int, o_str, r_str, p_str, o_bl, r_bl, p_bl, o_non, r_non, p_non, o_cst, r_cst, p_cst, o_fnv, r_fnv, p_fnv, o_tyv, r_tyv, p_tyv, o_bin, r_bin, p_bin, o_un, r_un, p_un, o_tup, r_tup, p_tup, o_lst, r_lst, p_lst, o_sub, r_sub, p_sub, o_slc, r_slc, p_slc, o_call, r_call, p_call, o_callk, r_callk, p_callk, o_blt, r_blt, p_blt, o_mth, r_mth, p_mth, o_comp, r_comp, p_comp, o_rng, r_rng, p_rng, o_enm, r_enm, p_enm, o_zip, r_zip, p_zip, o_cmp, r_cmp, p_cmp, o_chn, r_chn, p_chn, o_not, r_not, p_not, o_and, r_and, p_and, o_or, r_or, p_or, o_ife, r_ife, p_ife, p_var, kT3_eq, kT2_eq, evVar, tsVar, liftO, liftB, flOf, fzO, okIf, cmp2, rsO, rsOs, unP, truth, lstAt, argV, argVs, slotsOf, argBack, setP, itO, itemsP, setPar, isNonP, kindO, seqOf, ownFz, wipeE, unwipe, consO, enmP, zipP, List.all_cons, List.all_nil, Bool.and_true, Bool.true_and, Bool.and_self, Option.bind_some, Option.map_some, List.getElem?_cons_zero, List.getElem?_cons_succ, List.set_cons_zero, List.set_cons_succ, Option.isSome_some, if_true, if_false, ite_true, ite_false, decide_true, decide_false, Bool.not_true, Bool.not_false, reduceIte, Bool.false_eq_true, blt_len_l, sz0, sz1, sz2, sz3, sz4, sz5, sz6, sz7, sz8, sz9, sz10, sz11, sz12, sz13, sz14, sz15, sz16, sz17, sz18, sz19, sz20]
    rw [it_ev, v_rng, y, bd_ok, kRg_eq]
    exact rng_end _ hr
  have x4 : (ev C (.comp [2] (.nm 2) (.rng (.cons (.blt .len (.cons (.var 1) .nil)) .nil)) .no (.call "_law_right" (.cons (.call "_law_box" (.cons (.var 1) (.cons (.var 2) .nil))) .nil)))).1 [some (.scr (ns.map PV.int), .fz), some (.lst (rs.map PV.int), .own), none] = .ok (.lst ((upTo rs.length).map fun _ => PV.bl true), .own) [some (.scr (ns.map PV.int), .fz), some (.lst (rs.map PV.int), fl), none] := by
    rw [v_comp, x3, bd_ok, kCo_eq]
    have o : ownFz [2] [some (.scr (ns.map PV.int), .fz), some (.lst (rs.map PV.int), .own), none] = true := rfl
    have w : wipeE [some (.scr (ns.map PV.int), .fz), some (.lst (rs.map PV.int), .own), none] [2] = [some (.scr (ns.map PV.int), .fz), some (.lst (rs.map PV.int), .own), none] := rfl
    rw [o, if_pos rfl, w, hl]
    rw [compEnd_ok, if_pos hs]
    rfl
  refine ⟨some (.lst (rs.map PV.int), fl), ?_⟩
  unfold d_law
  rw [x_seq, x1, th_nx, x_seq, x_ret, r_and, v_and, x2, bd_ok, kAn_eq]
  have x5 : (ev C (.blt .all (.cons (.comp [2] (.nm 2) (.rng (.cons (.blt .len (.cons (.var 1) .nil)) .nil)) .no (.call "_law_right" (.cons (.call "_law_box" (.cons (.var 1) (.cons (.var 2) .nil))) .nil))) .nil))).1 [some (.scr (ns.map PV.int), .fz), some (.lst (rs.map PV.int), .own), none] = .ok (.bl true, .fz) [some (.scr (ns.map PV.int), .fz), some (.lst (rs.map PV.int), fl), none] := by
    rw [v_blt, os_cons, o_comp, x4]
    simp only [bd_ok, bd_exc, bd_bad, fo_ok, fo_exc, th_nx, th_ret, th_exc, th_brk, th_cnt, tk_nx, tk_cnt, tk_brk, tk_ret, tk_exc, x_nil, x_seq, kAsg_eq, x_asg, kUnp_eq, x_unp, kPar_eq, x_par, kSet2_eq, kSet1_eq, x_seti, kApp_eq, x_app, kExpr_eq, x_expr, x_ret, x_retN, kIf_eq, x_ife, kLoop_eq, x_loop, x_whl, kWh_eq, x_brk, x_cnt, x_pass, kCl2_eq, kCl1_eq, kTr_eq, kB2_eq, kB1_eq, kU_eq, kTup_eq, kLst_eq, kS2_eq, kS1_eq, kC3_eq, kC2_eq, kC1_eq, kCall_eq, kK2_eq, kK1_eq, kBl_eq, kM2_eq, kM1_eq, kCo_eq, kRg_eq, kEn_eq, kZ2_eq, kZ1_eq, v_int, t_int, v_str, t_str, v_bl, t_bl, v_non, t_non, v_cst, t_cst, v_fnv, t_fnv, v_tyv, t_tyv, v_bin, t_bin, v_un, t_un, v_tup, t_tup, v_lst, t_lst, v_sub, t_sub, v_slc, t_slc, v_call, t_call, v_callk, t_callk, v_blt, t_blt, v_mth, t_mth, v_comp, t_comp, v_rng, t_rng, v_enm, t_enm, v_zip, t_zip, kVb_eq, kQ2_eq, kQ1_eq, kH4_eq, kH3_eq, kH2_eq, kH1_eq, v_cmp, t_cmp, v_chn, t_chn, v_var, t_var, kN2_eq, kN1_eq, kNt_eq, v_not, t_not, kAn_eq, kAt_eq, v_and, t_and, kOn_eq, kOt_eq, v_or, t_or, kIv_eq, kIt_eq, v_ife, t_ife, v_seq, v_no, kOs2_eq, kOs1_eq, os_nil, os_cons, kF2_eq, kF1_eq, f_nil, f_cons, kG2_eq, kG1_eq, kG3_eq, g_nil, g_val, g_slot, kGt_eq, g_tmpc, o_var, kIe_eq, it_ev, p_no, kRt_eq, r_var, kV_eq, kPt_eq, o_int, r_int, p_int, o_str, r_str, p_str, o_bl, r_bl, p_bl, o_non, r_non, p_non, o_cst, r_cst, p_cst, o_fnv, r_fnv, p_fnv, o_tyv, r_tyv, p_tyv, o_bin, r_bin, p_bin, o_un, r_un, p_un, o_tup, r_tup, p_tup, o_lst, r_lst, p_lst, o_sub, r_sub, p_sub, o_slc, r_slc, p_slc, o_call, r_call, p_call, o_callk, r_callk, p_callk, o_blt, r_blt, p_blt, o_mth, r_mth, p_mth, o_comp, r_comp, p_comp, o_rng, r_rng, p_rng, o_enm, r_enm, p_enm, o_zip, r_zip, p_zip, o_cmp, r_cmp, p_cmp, o_chn, r_chn, p_chn, o_not, r_not, p_not, o_and, r_and, p_and, o_or, r_or, p_or, o_ife, r_ife, p_ife, p_var, kT3_eq, kT2_eq, evVar, tsVar, liftO, liftB, flOf, fzO, okIf, cmp2, rsO, rsOs, unP, truth, lstAt, argV, argVs, slotsOf, argBack, setP, itO, itemsP, setPar, isNonP, kindO, seqOf, ownFz, wipeE, unwipe, consO, enmP, zipP, List.all_cons, List.all_nil, Bool.and_true, Bool.true_and, Bool.and_self, Option.bind_some, Option.map_some, List.getElem?_cons_zero, List.getElem?_cons_succ, List.set_cons_zero, List.set_cons_succ, Option.isSome_some, if_true, if_false, ite_true, ite_false, decide_true, decide_false, Bool.not_true, Bool.not_false, reduceIte, Bool.false_eq_true, blt_all, allBls_true, all_true, sz0, sz1, sz2, sz3, sz4, sz5, sz6, sz7, sz8, sz9, sz10, sz11, sz12, sz13, sz14, sz15, sz16, sz17, sz18, sz19, sz20]
  show (((ev C (.blt .all (.cons (.comp [2] (.nm 2) (.rng (.cons (.blt .len (.cons (.var 1) .nil)) .nil)) .no (.call "_law_right" (.cons (.call "_law_box" (.cons (.var 1) (.cons (.var 2) .nil))) .nil))) .nil))).1 _).fo kRt).andThen _ = _
  rw [x5]
  rfl
theorem law_run {C : Cal} (h : LawC C) (ns : List Int) (hn : ns.length ≤ 63) : runF C (some d_law) [.scr (ns.map PV.int)] = .ok (.bl true, .fz) [] := by
  obtain ⟨u, ee⟩ := law_exec h ns hn
  show finish [false] (exec C d_law.body [some (.scr (ns.map PV.int), .fz), none, none]) = _
  rw [ee]; rfl
/-! ### joined -/
abbrev Cn (n : Nat) : Cal := calN cst T n
theorem run_of {n : Nat} {f : Str} {d : FD} (h : T f = some d) (ps : List PV) : (Cn (n + 1)).run f ps = runF (Cn n) (some d) ps := by
  show runF (Cn n) (T f) ps = _
  rw [h]
theorem sig_of {n : Nat} {f : Str} {d : FD} (h : T f = some d) : (Cn (n + 1)).sig f = some d.sg := by
  show (T f).map (·.sg) = _
  rw [h]; rfl
theorem takeOk (n : Nat) : TakeOk (Cn (n + 1)) := ⟨sig_of (d := d__law_take) rfl, fun m p low h1 h2 h3 => by
  obtain ⟨r, q, e, h⟩ := take_ok (C := Cn n) (d := d__law_take) rfl rfl rfl h1 h2 h3
  exact ⟨r, q, by rw [run_of (d := d__law_take) rfl]; exact e, h⟩⟩
theorem ofOk (n : Nat) : OfOk (Cn (n + 2)) := ⟨sig_of (d := d__law_of) rfl, fun m p xs h1 h2 h3 => by
  obtain ⟨x, q, hx, hq, e⟩ := of_ok (d := d__law_of) (takeOk n) rfl rfl rfl h1 h2 h3
  exact ⟨x, q, hx, hq, by rw [run_of (d := d__law_of) rfl]; exact e⟩⟩
theorem sameOk : ∀ n : Nat, SameOk (Cn (n + 1)) n
  | 0 => ⟨sig_of (d := d__law_same) rfl, fun p _ h => by omega⟩
  | n + 1 => ⟨sig_of (d := d__law_same) rfl, fun p hg hd => by
    rw [run_of (d := d__law_same) rfl]
    exact same_ok (sameOk n) rfl rfl rfl p hg hd⟩
theorem same_mono {C : Cal} {n m : Nat} (h : SameOk C n) (hm : m ≤ n) : SameOk C m := ⟨h.sig, fun p hg hd => h.run p hg (by omega)⟩
theorem divOk (n : Nat) : DivOk (Cn (n + 1)) := ⟨sig_of (d := d_divisor) rfl, fun a b h1 h2 h3 h4 => by rw [run_of (d := d_divisor) rfl]; exact div_run a b h1 h2 h3 h4⟩
theorem cellOk (n : Nat) : CellOk (Cn (n + 1)) := ⟨sig_of (d := d_cell_at) rfl, fun p t a b k hp hs => by rw [run_of (d := d_cell_at) rfl]; exact cell_run hp hs⟩
theorem leastOk (n : Nat) : LeastOk (Cn (n + 2)) := ⟨sig_of (d := d_least_turn) rfl, fun p q t u a1 b1 a2 b2 hp hq i1 i2 => by
  rw [run_of (d := d_least_turn) rfl]; exact least_run (divOk n) hp hq i1.a0 i1.a4 i2.a0 i2.a4 (allFound a1 b1 a2 b2 i1 i2)⟩
theorem levelOk (n : Nat) : LevelOk (Cn (n + 2)) := ⟨sig_of (d := d_level_with) rfl, fun p q t u a1 b1 a2 b2 k hp hq i1 i2 h => by
  rw [run_of (d := d_level_with) rfl]; exact level_run (divOk n) (cellOk n) hp hq i1.a0 i1.a4 h i2.a4⟩
theorem In.small {a b : Int} (h : In a b) : smallI a = true ∧ a < 1073741824 := by
  obtain ⟨h1, h2, _, _⟩ := h
  exact ⟨small_of (by omega) (by omega), by omega⟩
theorem askC (n : Nat) : AskC (Cn (n + 5)) where
  s1 := sig_of (d := d__law_first) rfl
  s2 := sig_of (d := d__law_shift) rfl
  s3 := sig_of (d := d_first_touch) rfl
  s4 := sig_of (d := d_do_touch) rfl
  s5 := sig_of (d := d_turns_back) rfl
  r1 := fun p q t u a1 b1 a2 b2 hp hq i1 i2 => by rw [run_of (d := d__law_first) rfl]; exact first_run hp hq i1.small.1 i2.a0 i2.small.2
  r2 := fun p q t u a1 b1 a2 b2 hp hq i1 i2 => by rw [run_of (d := d__law_shift) rfl]; exact shift_run hp hq i2.small.1
  r3 := fun p q t u a1 b1 a2 b2 hp hq i1 i2 => by rw [run_of (d := d_first_touch) rfl, touch_run (leastOk (n + 2)) (levelOk (n + 2)) hp hq i1 i2, touch_eq i1 i2]
  r4 := fun p q t u a1 b1 a2 b2 hp hq i1 i2 => by rw [run_of (d := d_do_touch) rfl, do_run (leastOk (n + 2)) hp hq i1 i2, some_eq i1 i2]
  r5 := fun p q t u a1 b1 a2 b2 hp hq i1 i2 => by rw [run_of (d := d_turns_back) rfl, back_run hp hq i1.a0 i1.small.2, back_eq i1 i2]
  sm := same_mono (sameOk (n + 4)) (by omega)
theorem askedOk (n : Nat) : AskedOk (Cn (n + 7)) := ⟨sig_of (d := d__law_asked) rfl, fun t u a1 b1 a2 b2 i1 i2 => by rw [run_of (d := d__law_asked) rfl]; exact ask_run (askC (n + 1)) i1 i2⟩
theorem hand : (Cn 12).run "_law_by_hand_right" [] = .ok (.bl true, .fz) [] := by kernel_rfl
theorem lawC : LawC (Cn 12) where
  s1 := sig_of (d := d__law_cells) rfl
  s2 := sig_of (d := d__law_by_hand_right) rfl
  s3 := sig_of (d := d__law_right) rfl
  s4 := sig_of (d := d__law_box) rfl
  r1 := fun ns hn => by
    obtain ⟨rs, h1, h2, e⟩ := cells_run (C := Cn 11) ns hn
    exact ⟨rs, h1, h2, by rw [run_of (d := d__law_cells) rfl]; exact e⟩
  r2 := hand
  r3 := fun p hp => by
    obtain ⟨q, e⟩ := right_run (takeOk 10) (ofOk 9) (askedOk 4) hp
    exact ⟨q, by rw [run_of (d := d__law_right) rfl]; exact e⟩
  r4 := fun rs k g h1 h2 h3 => by
    obtain ⟨x, y, e⟩ := box_run (C := Cn 11) h1 h2 h3
    exact ⟨x, y, by rw [run_of (d := d__law_box) rfl]; exact e⟩
theorem fine : Fine 13 := fun ns hn => ⟨.fz, [], by rw [show (calN cst T 13) = Cn (12 + 1) from rfl, run_of (d := d_law) rfl]; exact law_run lawC ns hn⟩
end K52

theorem PySem.Challenge.cw_builtahead_k52_places_that_touch_holds : PySem.Challenge.rw_builtahead_k52_places_that_touch.Holds := by
  exact K52.holds (n := 12) K52.fine ⟨rfl, by decide, by decide⟩
