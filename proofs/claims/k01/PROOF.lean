import PyProof.Rows.All
import Wide.All
import OpenK.AllK
import Wide.FinOn
import PySem.PyData
import HandS.ForMost
import HandS.ForExc
import HandS.Deep
import HandS.IsInst
import HandS.Flow
import HandS.TupLe
import HandS.TupAny
import HandS.Style
import PySem.Challenge.RW_overpasses_k01_sums_of_roads
/-! UD -/
section
set_option linter.all false
/-! UD: plain data and an evaluator's words over it; no program and no heap in sight. -/
namespace U
open PySem (PyData Str)

abbrev Ky := Sum Int Str
/-- data with what is one's own: z never changes any more; l, t, dk, dt: a list, a tuple, a dict that is held by one name alone; s: the script -/
inductive O where
  | z (d : PyData)
  | l (os : List O)
  | t (os : List O)
  | dk (kvs : List (Ky × O))
  | dt (kvs : List (List Ky × O))
  | s (ns : List Int)

def kyD : Ky → PyData
  | .inl i => .int i
  | .inr s => .str s
mutual
def strip : O → PyData
  | .z d => d
  | .l os => .list (strips os)
  | .t os => .tuple (strips os)
  | .dk kvs => .dict (stripK kvs)
  | .dt kvs => .dict (stripT kvs)
  | .s ns => .list (ns.map .int)
def strips : List O → List PyData
  | [] => []
  | o :: os => strip o :: strips os
def stripK : List (Ky × O) → List (PyData × PyData)
  | [] => []
  | (k, o) :: r => (kyD k, strip o) :: stripK r
def stripT : List (List Ky × O) → List (PyData × PyData)
  | [] => []
  | (k, o) :: r => (.tuple (k.map kyD), strip o) :: stripT r
end
theorem strips_map : ∀ os, strips os = os.map strip
  | [] => rfl
  | o :: os => by rw [strips, strips_map os]; rfl
@[simp] theorem strip_z (d : PyData) : strip (.z d) = d := by rw [strip]
@[simp] theorem strip_l (os : List O) : strip (.l os) = .list (os.map strip) := by rw [strip, strips_map]
@[simp] theorem strip_t (os : List O) : strip (.t os) = .tuple (os.map strip) := by rw [strip, strips_map]

/-- not the script itself -/
def nS : O → Bool
  | .s _ => false
  | _ => true
/-- what stands in a slot: one's own (or data), or lent (read alone) -/
inductive Sl where
  | w (o : O)
  | r (o : O)
abbrev Env := List (Option Sl)

inductive Res (α : Type) where
  | ok (a : α)
  | err (c : Str) (d : PyData)
  | bad
def Res.bind {α β : Type} : Res α → (α → Res β) → Res β
  | .ok a, f => f a
  | .err c d, _ => .err c d
  | .bad, _ => .bad
/-- where nothing may be raised -/
def Res.nox {α : Type} : Res α → Res α
  | .ok a => .ok a
  | _ => .bad
def Res.of {α : Type} : Option α → Res α
  | some a => .ok a
  | none => .bad
@[simp] theorem Res.bind_ok {α β : Type} (a : α) (f : α → Res β) : (Res.ok a).bind f = f a := (rfl)
@[simp] theorem Res.bind_err {α β : Type} (c : Str) (d : PyData) (f : α → Res β) : (Res.err c d : Res α).bind f = .err c d := (rfl)
@[simp] theorem Res.bind_bad {α β : Type} (f : α → Res β) : (Res.bad : Res α).bind f = .bad := (rfl)
@[simp] theorem Res.nox_ok {α : Type} (a : α) : (Res.ok a).nox = .ok a := (rfl)
@[simp] theorem Res.of_some {α : Type} (a : α) : Res.of (some a) = .ok a := (rfl)
@[simp] theorem Res.of_none {α : Type} : Res.of (none : Option α) = .bad := (rfl)
abbrev EV := Env → Res O
abbrev EB := Env → Res Bool
abbrev EA := Env → Res (List O)

/-- where a statement ends -/
inductive Out where
  | nx (ρ : Env)
  | bk (ρ : Env)
  | ct (ρ : Env)
  | rt (o : O)
  | err (c : Str) (d : PyData) (ρ : Env)
  | bad
abbrev ES := Env → Out

/-! ### names, constants -/
def eVar (i : Nat) : EV := fun ρ => match ρ[i]? with
  | some (some (.w o)) => .ok o
  | some (some (.r o)) => .ok o
  | _ => .bad
def eC (d : PyData) : EV := fun _ => .ok (.z d)
/-- data alone -/
def gZ : O → Res O
  | .z d => .ok (.z d)
  | _ => .bad
def e1 (g : O → Res O) (f : EV) : EV := fun ρ => (f ρ).bind fun a => (g a).nox
def e2 (g : O → O → Res O) (f1 f2 : EV) : EV := fun ρ => (f1 ρ).bind fun a => (f2 ρ).bind fun b => (g a b).nox
def eZ (f : EV) : EV := e1 gZ f
/-- what is new is made data -/
def gFz (o : O) : Res O := if nS o then .ok (.z (strip o)) else .bad
def eFz (f : EV) : EV := e1 gFz f

/-! ### lists as they are seen -/
def lineMax : Nat := 16777216
/-- a list's parts -/
def seqO : O → Option (List O)
  | .z (.list ds) => some (ds.map .z)
  | .l os => some os
  | _ => none
def tupO : O → Option (List O)
  | .z (.tuple ds) => some (ds.map .z)
  | .t os => some os
  | _ => none
def allZ : List O → Option (List PyData)
  | [] => some []
  | .z d :: r => (allZ r).map (d :: ·)
  | _ :: _ => none
/-- a list of data -/
def lz (o : O) : Option (List PyData) := (seqO o).bind allZ
def tz (o : O) : Option (List PyData) := (tupO o).bind allZ
@[simp] theorem allZ_map : ∀ ds : List PyData, allZ (ds.map .z) = some ds
  | [] => rfl
  | d :: ds => by rw [List.map_cons, allZ, allZ_map ds]; rfl
/-- xs[i] -/
def at_ {α : Type} (xs : List α) (i : Int) : Option α :=
  if 0 ≤ i then xs[i.toNat]? else if 0 ≤ i + (xs.length : Int) then xs[(i + (xs.length : Int)).toNat]? else none
/-- a slice's bound -/
def bnd (n : Nat) : Int → Nat := fun i => if i < 0 then (i + (n : Int)).toNat else min i.toNat n
def cut {α : Type} (xs : List α) (lo hi : Option Int) : List α :=
  let a := (lo.map (bnd xs.length)).getD 0
  let b := (hi.map (bnd xs.length)).getD xs.length
  (xs.drop a).take (b - a)

/-! ### operators -/
def gI (g : Int → Int → Res PyData) : O → O → Res O := fun a b => match a, b with
  | .z (.int i), .z (.int j) => (g i j).bind fun d => .ok (.z d)
  | _, _ => .bad
def gAdd : O → O → Res O := fun a b => match a, b with
  | .z (.int i), .z (.int j) => .ok (.z (.int (i + j)))
  | a, b => match lz a, lz b with
    | some xs, some ys => if xs.length + ys.length ≤ lineMax then .ok (.l ((xs ++ ys).map .z)) else .bad
    | _, _ => .bad
def gSub : O → O → Res O := gI fun i j => .ok (.int (i - j))
def gMul : O → O → Res O := fun a b => match a, b with
  | .z (.int i), .z (.int j) => if (-(2 ^ 64) < i ∧ i < 2 ^ 64) ∨ (-(2 ^ 64) < j ∧ j < 2 ^ 64) then .ok (.z (.int (i * j))) else .bad
  | a, .z (.int k) => match lz a with
    | some xs => if -(2 ^ 63) ≤ k ∧ k < 2 ^ 63 ∧ xs.length * k.toNat ≤ lineMax then .ok (.l ((List.replicate k.toNat xs).flatten.map .z)) else .bad
    | none => .bad
  | _, _ => .bad
def gMod : O → O → Res O := gI fun i j => if j ≠ 0 then .ok (.int (i.fmod j)) else .bad
def gDiv : O → O → Res O := gI fun i j => if j ≠ 0 ∧ j.natAbs < 1073741824 then .ok (.int (i.fdiv j)) else .bad
def gPow : O → O → Res O := gI fun i j => if 0 ≤ j ∧ j ≤ 1000000 ∧ i.natAbs < 2 ^ 64 then .ok (.int (i ^ j.toNat)) else .bad
def gNeg : O → Res O
  | .z (.int i) => .ok (.z (.int (-i)))
  | _ => .bad

/-! ### comparisons -/
mutual
def eqD : PyData → PyData → Bool
  | .none, .none => true
  | .bool a, .bool b => a == b
  | .bool a, .int j => (if a then 1 else 0) == j
  | .int i, .bool b => i == (if b then 1 else 0)
  | .int i, .int j => i == j
  | .str x, .str y => x == y
  | .list xs, .list ys => eqDs xs ys
  | .tuple xs, .tuple ys => eqDs xs ys
  | _, _ => false
def eqDs : List PyData → List PyData → Bool
  | [], [] => true
  | x :: xs, y :: ys => eqD x y && eqDs xs ys
  | _, _ => false
end
/-- data that == may see: so deep at most, no dict, every text well made -/
def strFine (x : Str) : Bool := x.cps.all fun c => decide (c < 1114112)
mutual
def fine : Nat → PyData → Bool
  | _, .none => true
  | _, .bool _ => true
  | _, .int _ => true
  | _, .str x => strFine x
  | n + 1, .list xs => fines n xs
  | n + 1, .tuple xs => fines n xs
  | _, _ => false
def fines : Nat → List PyData → Bool
  | _, [] => true
  | n, x :: xs => fine n x && fines n xs
end
def gEq : O → O → Res O := fun a b => if fine 60 (strip a) = true ∧ fine 60 (strip b) = true then .ok (.z (.bool (eqD (strip a) (strip b)))) else .bad
def gNe : O → O → Res O := fun a b => if fine 60 (strip a) = true ∧ fine 60 (strip b) = true then .ok (.z (.bool (!eqD (strip a) (strip b)))) else .bad
def isNone : O → Bool
  | .z .none => true
  | _ => false
def gIs : O → O → Res O := fun a b => match b with
  | .z .none => .ok (.z (.bool (isNone a)))
  | _ => .bad
def gIsnt : O → O → Res O := fun a b => match b with
  | .z .none => .ok (.z (.bool (!isNone a)))
  | _ => .bad
/-- none, a bool, a whole number, a text -/
def flat : PyData → Bool
  | .none => true
  | .bool _ => true
  | .int _ => true
  | .str _ => true
  | _ => false
def inD (d : PyData) (ds : List PyData) : Bool := ds.any fun e => eqD e d
def gMem (neg : Bool) : O → O → Res O := fun a b => match lz b with
  | some ds => if fine 60 (strip a) = true ∧ fine 60 (.list ds) = true then .ok (.z (.bool (inD (strip a) ds != neg))) else .bad
  | none => match tz b with
    | some ds => if flat (strip a) = true ∧ ds.all flat = true then .ok (.z (.bool (inD (strip a) ds != neg))) else .bad
    | none => .bad
def gIn := gMem false
def gNin := gMem true
/-- whole numbers in order; tuples of whole numbers, number by number -/
def ltI : List Int → List Int → Bool
  | [], [] => false
  | [], _ :: _ => true
  | _ :: _, [] => false
  | x :: xs, y :: ys => if x = y then ltI xs ys else decide (x < y)
def intsOf : List PyData → Option (List Int)
  | [] => some []
  | .int i :: r => (intsOf r).map (i :: ·)
  | _ :: _ => none
def tI (o : O) : Option (List Int) := (tz o).bind intsOf
def leI : List Int → List Int → Bool
  | [], _ => true
  | _ :: _, [] => false
  | x :: xs, y :: ys => if x = y then leI xs ys else decide (x ≤ y)
def gOrd (p : Int → Int → Bool) (q : List Int → List Int → Bool) : O → O → Res O := fun a b => match a, b with
  | .z (.int i), .z (.int j) => .ok (.z (.bool (p i j)))
  | a, b => match tI a, tI b with
    | some xs, some ys => .ok (.z (.bool (q xs ys)))
    | _, _ => .bad
def gLt := gOrd (fun i j => decide (i < j)) ltI
def gLe := gOrd (fun i j => decide (i ≤ j)) leI
def gGt : O → O → Res O := gI fun i j => .ok (.bool (decide (j < i)))
def gGe : O → O → Res O := gI fun i j => .ok (.bool (decide (j ≤ i)))
/-- a p b q c -/
def eCh (g g' : O → O → Res O) (f1 f2 f3 : EV) : EV := fun ρ => (f1 ρ).bind fun a => (f2 ρ).bind fun b => (g a b).nox.bind fun r => match r with
  | .z (.bool true) => (f3 ρ).bind fun c => (g' b c).nox
  | .z (.bool false) => .ok (.z (.bool false))
  | _ => .bad

/-! ### truth, tests -/
def truth : O → Res Bool
  | .z .none => .ok false
  | .z (.bool b) => .ok b
  | .z (.int i) => .ok (i != 0)
  | .z (.list ds) => .ok (!ds.isEmpty)
  | .z (.tuple ds) => .ok (!ds.isEmpty)
  | .l os => .ok (!os.isEmpty)
  | .t os => .ok (!os.isEmpty)
  | _ => .bad
/-- a bool alone -/
def bool1 : O → Res Bool
  | .z (.bool b) => .ok b
  | _ => .bad
def tB (f : EV) : EB := fun ρ => (f ρ).bind bool1
def tV (f : EV) : EB := fun ρ => (f ρ).bind truth
def tAnd (t u : EB) : EB := fun ρ => (t ρ).bind fun b => if b then u ρ else .ok false
def tOr (t u : EB) : EB := fun ρ => (t ρ).bind fun b => if b then .ok true else u ρ
def tNot (t : EB) : EB := fun ρ => (t ρ).bind fun b => .ok (!b)
/-- and, or, not as values -/
def eAnd (f g : EV) : EV := fun ρ => (f ρ).bind fun a => (truth a).bind fun b => if b then g ρ else .ok a
def eOr (f g : EV) : EV := fun ρ => (f ρ).bind fun a => (truth a).bind fun b => if b then .ok a else g ρ
def eNot (f : EV) : EV := fun ρ => (f ρ).bind fun a => (truth a).bind fun b => .ok (.z (.bool (!b)))
def eIf (t : EB) (f g : EV) : EV := fun ρ => (t ρ).bind fun b => if b then f ρ else g ρ

/-! ### subscripts, displays -/
def zOf : Option O → Res O
  | some (.z d) => .ok (.z d)
  | _ => .bad
def gIx : O → O → Res O := fun a b => match b with
  | .z (.int i) => match a with
    | .s ns => zOf ((at_ ns i).map fun n => .z (.int n))
    | a => match seqO a with
      | some os => zOf (at_ os i)
      | none => match tupO a with
        | some os => zOf (at_ os i)
        | none => .bad
  | _ => .bad
def aNil : EA := fun _ => .ok []
def aCons (f : EV) (g : EA) : EA := fun ρ => (f ρ).bind fun a => (g ρ).bind fun r => .ok (a :: r)
def eLst (g : EA) : EV := fun ρ => (g ρ).bind fun os => if os.length ≤ lineMax ∧ os.all nS = true then .ok (.l os) else .bad
def mkT (os : List O) : O := match allZ os with
  | some ds => .z (.tuple ds)
  | none => .t os
def eTup (g : EA) : EV := fun ρ => (g ρ).bind fun os => if os.length ≤ lineMax ∧ os.all nS = true then .ok (mkT os) else .bad
/-- a slice's part -/
def pNo : Env → Res (Option Int) := fun _ => .ok none
def pSo (f : EV) : Env → Res (Option Int) := fun ρ => (f ρ).bind fun o => match o with
  | .z (.int i) => .ok (some i)
  | _ => .bad
def gCut (a : O) (lo hi : Option Int) : Res O := match lz a with
  | some ds => .ok (.l ((cut ds lo hi).map .z))
  | none => match tz a with
    | some ds => .ok (.z (.tuple (cut ds lo hi)))
    | none => .bad
def eCut (f : EV) (lo hi : Env → Res (Option Int)) : EV := fun ρ => (f ρ).bind fun a => (lo ρ).bind fun i => (hi ρ).bind fun j => (gCut a i j).nox
/-- xs[::-1] -/
def gRev (a : O) : Res O := match lz a with
  | some ds => .ok (.l (ds.reverse.map .z))
  | none => .bad
def eRev (f : EV) : EV := e1 gRev f

/-! ### calls of what Python brings -/
def eK (g : List O → Res O) (f : EA) : EV := fun ρ => (f ρ).bind fun os => (g os).nox
def kLen : List O → Res O
  | [.s ns] => .ok (.z (.int ns.length))
  | [a] => match seqO a with
    | some os => .ok (.z (.int os.length))
    | none => match tupO a with
      | some os => .ok (.z (.int os.length))
      | none => .bad
  | _ => .bad
def kAbs : List O → Res O
  | [.z (.int i)] => .ok (.z (.int (if i < 0 then -i else i)))
  | _ => .bad
def kInt : List O → Res O
  | [.z (.int i)] => .ok (.z (.int i))
  | [.z (.bool b)] => .ok (.z (.int (if b then 1 else 0)))
  | _ => .bad
def kMin2 : List O → Res O
  | [.z (.int i), .z (.int j)] => .ok (.z (.int (if j < i then j else i)))
  | _ => .bad
def kMax2 : List O → Res O
  | [.z (.int i), .z (.int j)] => .ok (.z (.int (if j > i then j else i)))
  | _ => .bad
def kList : List O → Res O
  | [a] => match lz a with
    | some ds => .ok (.l (ds.map .z))
    | none => match tz a with
      | some ds => .ok (.l (ds.map .z))
      | none => .bad
  | _ => .bad
inductive Ty where
  | int | bool | list | tuple | str
def tyOf : PyData → Option Ty
  | .int _ => some .int
  | .bool _ => some .bool
  | .list _ => some .list
  | .tuple _ => some .tuple
  | .str _ => some .str
  | _ => none
def isTy : Ty → PyData → Bool
  | .int, .int _ => true
  | .int, .bool _ => true
  | .bool, .bool _ => true
  | .list, .list _ => true
  | .tuple, .tuple _ => true
  | .str, .str _ => true
  | _, _ => false
def gIsi (t : Ty) : O → Res O
  | .z d => .ok (.z (.bool (isTy t d)))
  | .l _ => .ok (.z (.bool (isTy t (.list []))))
  | .t _ => .ok (.z (.bool (isTy t (.tuple []))))
  | _ => .bad

def eIsi (t : Ty) (f : EV) : EV := e1 (gIsi t) f
/-! ### what is walked -/
abbrev EI := Env → Res (List O)
def iSeq (f : EV) : EI := fun ρ => (f ρ).bind fun a => match seqO a with
  | some os => .ok os
  | none => match tupO a with
    | some os => .ok os
    | none => .bad
/-- of data alone -/
def iSeqZ (f : EV) : EI := fun ρ => (f ρ).bind fun a => match a with
  | .z (.list ds) => .ok (ds.map .z)
  | .z (.tuple ds) => .ok (ds.map .z)
  | _ => .bad
def upTo (n : Nat) (lo : Int) : List O := (List.range n).map fun (i : Nat) => .z (.int (lo + (i : Int)))
def far (i : Int) : Bool := decide (-(2 ^ 62) ≤ i ∧ i < 2 ^ 62)
def iR1 (f : EV) : EI := fun ρ => (f ρ).bind fun a => match a with
  | .z (.int j) => if far j then .ok (upTo j.toNat 0) else .bad
  | _ => .bad
def iR2 (f g : EV) : EI := fun ρ => (f ρ).bind fun a => (g ρ).bind fun b => match a, b with
  | .z (.int i), .z (.int j) => if far i && far j then .ok (upTo (j - i).toNat i) else .bad
  | _, _ => .bad

/-! ### targets -/
abbrev EG := O → Env → Option Env
def lent : O → Sl
  | .z d => .w (.z d)
  | o => .r o
/-- a name; in a comprehension what is not data is lent -/
def tN (i : Nat) : EG := fun o ρ => some (ρ.set i (some (.w o)))
def tNr (i : Nat) : EG := fun o ρ => some (ρ.set i (some (lent o)))
def tTs : List EG → List O → Env → Option Env
  | [], [], ρ => some ρ
  | g :: gs, o :: os, ρ => (g o ρ).bind fun ρ' => tTs gs os ρ'
  | _, _, _ => none
def tT (gs : List EG) : EG := fun o ρ => (tupO o).bind fun os => tTs gs os ρ

/-! ### comprehensions -/
def wipeE (ρ : Env) : List Nat → Env
  | [] => ρ
  | v :: vs => (wipeE ρ vs).set v none
def lend (ρ : Env) : Env := ρ.map fun s => match s with
  | some (.w o) => some (lent o)
  | s => s
/-- the turns of a comprehension: tg the target, ts the tests, el the element; from the items left and what is made -/
def lcGo (tg : EG) (ts : EB) (el : EV) (ρ : Env) : List O → List O → Res (List O)
  | [], acc => .ok acc
  | x :: xs, acc => match tg x ρ with
    | none => .bad
    | some ρ1 => (ts ρ1).nox.bind fun b => if b then (el ρ1).nox.bind fun o => if acc.length < lineMax ∧ nS o = true then lcGo tg ts el ρ xs (acc ++ [o]) else .bad else lcGo tg ts el ρ xs acc
def tYes : EB := fun _ => .ok true
def eLc (src : EI) (tg : EG) (ts : EB) (el : EV) (vs : List Nat) : EV := fun ρ => (src ρ).bind fun items => (lcGo tg ts el (lend (wipeE ρ vs)) items []).bind fun os => .ok (.l os)

/-! ### statements -/
def sPass : ES := fun ρ => .nx ρ
/-- then g -/
def Out.seq (r : Out) (g : ES) : Out := match r with
  | .nx ρ' => g ρ'
  | r => r
/-- a loop's turn is over: on with k -/
def Out.turn (r : Out) (k : ES) : Out := match r with
  | .nx ρ => k ρ
  | .ct ρ => k ρ
  | .bk ρ => .nx ρ
  | .rt o => .rt o
  | .err c d ρ => .err c d ρ
  | .bad => .bad
/-- a def's end -/
def Out.res (r : Out) : Res O := match r with
  | .rt o => .ok o
  | .nx _ => .ok (.z .none)
  | .err c d _ => .err c d
  | _ => .bad
def sSeq (f g : ES) : ES := fun ρ => (f ρ).seq g
def Res.out {α : Type} (r : Res α) (ρ : Env) (k : α → Out) : Out := match r with
  | .ok a => k a
  | .err c d => .err c d ρ
  | .bad => .bad
def sAsg (e : EV) (g : EG) : ES := fun ρ => (e ρ).out ρ fun o => match g o ρ with
  | some ρ' => .nx ρ'
  | none => .bad
/-- x op= e -/
def sAug (i : Nat) (g : Int → Int → Int) (e : EV) : ES := fun ρ => match ρ[i]? with
  | some (some (.w (.z (.int a)))) => (e ρ).out ρ fun b => match b with
    | .z (.int b) => .nx (ρ.set i (some (.w (.z (.int (g a b))))))
    | _ => .bad
  | _ => .bad
def sIf (t : EB) (f g : ES) : ES := fun ρ => (t ρ).out ρ fun b => if b then f ρ else g ρ
def sRet (e : EV) : ES := fun ρ => (e ρ).out ρ fun o => .rt o
/-- return x, x one's own -/
def sRetMv (i : Nat) : ES := fun ρ => match ρ[i]? with
  | some (some (.w o)) => .rt o
  | _ => .bad
def sRetN : ES := fun _ => .rt (.z .none)
def sBrk : ES := fun ρ => .bk ρ
def sCnt : ES := fun ρ => .ct ρ
def sDrop (e : EV) : ES := fun ρ => (e ρ).out ρ fun _ => .nx ρ
/-- a name's own thing becomes data (nothing runs) -/
def frz (i : Nat) (ρ : Env) : Env := match ρ[i]? with
  | some (some (.w o)) => if nS o then ρ.set i (some (.w (.z (strip o)))) else ρ
  | _ => ρ
def sFrz (i : Nat) (f : ES) : ES := fun ρ => f (frz i ρ)
/-- x.append(e) -/
def sApp (i : Nat) (e : EV) : ES := fun ρ => match ρ[i]? with
  | some (some (.w (.l os))) => (e ρ).out ρ fun o => if os.length < lineMax ∧ nS o = true then .nx (ρ.set i (some (.w (.l (os ++ [o]))))) else .bad
  | _ => .bad
/-- x[k] = e, x a list of one's own -/
def setAt (os : List O) (k : Int) (o : O) : Option (List O) :=
  if 0 ≤ k then (if k < os.length then some (os.set k.toNat o) else none) else if 0 ≤ k + (os.length : Int) then some (os.set (k + (os.length : Int)).toNat o) else none
def forGo (tg : EG) (body : ES) : List O → Env → Out
  | [], ρ => .nx ρ
  | x :: xs, ρ => match tg x ρ with
    | none => .bad
    | some ρ1 => (body ρ1).turn (forGo tg body xs)
/-- for: over data alone -/
def sFor (src : EI) (tg : EG) (body : ES) : ES := fun ρ => (src ρ).out ρ fun items => match allZ items with
  | some ds => forGo tg body (ds.map .z) ρ
  | none => .bad

/-! ### a def -/
def entry (n : Nat) (args : List O) : Env := args.map (fun o => some (lent o)) ++ List.replicate (n - args.length) none
/-- its value from its arguments; n: how many names it has -/
def run (n : Nat) (body : ES) (args : List O) : Res O := (body (entry n args)).res
/-- a call -/
def eCall (F : List O → Res O) (g : EA) : EV := fun ρ => (g ρ).bind F
end U
end
/-! UW -/
section
set_option Elab.async false
set_option linter.all false
set_option maxRecDepth 100000
/-! UW: what UD's words are worth: rules of HandS under them. -/
namespace U
open PySem L2
abbrev Zs := Addr → Prop

mutual
/-- v is the data d, for good: its lists and dicts lie in Z -/
def RZ (H : Hp) (Z : Zs) (K : PySem.W.Frag) : PyData → V → Prop
  | .none, v => v = .non
  | .bool b, v => v = .bl b
  | .int i, v => v = .int i
  | .str s, v => v = .str s
  | .list ds, v => ∃ a vs, v = .ref a ∧ Z a ∧ H a = some (.lst vs) ∧ RZs H Z K ds vs
  | .tuple ds, v => ∃ a vs, v = .ref a ∧ SqT K H a vs ∧ RZs H Z K ds vs
  | .dict _, _ => False
def RZs (H : Hp) (Z : Zs) (K : PySem.W.Frag) : List PyData → List V → Prop
  | [], vs => vs = []
  | d :: ds, vs => ∃ v r, vs = v :: r ∧ RZ H Z K d v ∧ RZs H Z K ds r
end
/-- the script, as it may stand -/
def SqS (H : Hp) (K : PySem.W.Frag) (a : Addr) (vs : List V) : Prop := (∃ o, H a = some (.frz o (.lst vs))) ∨ SqL K (fun _ => none) a vs
mutual
/-- v is o; fp: the lists and dicts that are its own -/
def Own (H : Hp) (Z : Zs) (K : PySem.W.Frag) : O → V → List Addr → Prop
  | .z d, v, fp => fp = [] ∧ RZ H Z K d v
  | .l os, v, fp => ∃ a vs g, v = .ref a ∧ fp = a :: g ∧ H a = some (.lst vs) ∧ Owns H Z K os vs g
  | .t os, v, fp => ∃ a vs, v = .ref a ∧ SqT K H a vs ∧ Owns H Z K os vs fp
  | .dk _, _, _ => False
  | .dt _, _, _ => False
  | .s ns, v, fp => fp = [] ∧ ∃ a, v = .ref a ∧ SqS H K a (ns.map V.int)
def Owns (H : Hp) (Z : Zs) (K : PySem.W.Frag) : List O → List V → List Addr → Prop
  | [], vs, fp => vs = [] ∧ fp = []
  | o :: os, vs, fp => ∃ v r f g, vs = v :: r ∧ fp = f ++ g ∧ Own H Z K o v f ∧ Owns H Z K os r g ∧ nS o = true
end

/-- what stands for good still stands -/
structure Kp (H : Hp) (Z : Zs) (H' : Hp) (Z' : Zs) : Prop where
  zz : ∀ a, Z a → Z' a
  zk : ∀ a o, Z a → H a = some o → H' a = some o
  tup : ∀ a xs, Rd H a (.tup xs) → Rd H' a (.tup xs)
  frz : ∀ a o u, H a = some (.frz o u) → H' a = some (.frz o u)
/-- the heap has grown -/
structure Ext (H : Hp) (Z : Zs) (H' : Hp) (Z' : Zs) : Prop where
  keep : ∀ a o, H a = some o → H' a = some o
  zz : ∀ a, Z a → Z' a
  zn : ∀ a, Z' a → Z a ∨ H a = none
  zd : ∀ a, Z' a → H' a ≠ none
section
variable {H H' H1 H2 : Hp} {Z Z' Z1 Z2 : Zs} {K : PySem.W.Frag}
theorem Ext.kp (e : Ext H Z H' Z') : Kp H Z H' Z' := ⟨e.zz, fun a o _ h => e.keep a o h, fun a xs h => by
  rcases h with h | ⟨o, h⟩
  · exact .inl (e.keep _ _ h)
  · exact .inr ⟨o, e.keep _ _ h⟩, fun a o u h => e.keep _ _ h⟩
theorem Kp.refl : Kp H Z H Z := ⟨fun _ h => h, fun _ _ _ h => h, fun _ _ h => h, fun _ _ _ h => h⟩
theorem Kp.trans (a : Kp H Z H1 Z1) (b : Kp H1 Z1 H2 Z2) : Kp H Z H2 Z2 :=
  ⟨fun x h => b.zz x (a.zz x h), fun x o z h => b.zk x o (a.zz x z) (a.zk x o z h), fun x xs h => b.tup x xs (a.tup x xs h), fun x o u h => b.frz x o u (a.frz x o u h)⟩
theorem Ext.refl (hz : ∀ a, Z a → H a ≠ none) : Ext H Z H Z := ⟨fun _ _ h => h, fun _ h => h, fun _ h => .inl h, hz⟩
theorem Ext.trans (a : Ext H Z H1 Z1) (b : Ext H1 Z1 H2 Z2) : Ext H Z H2 Z2 :=
  ⟨fun x o h => b.keep x o (a.keep x o h), fun x h => b.zz x (a.zz x h), fun x h => (b.zn x h).elim (a.zn x) fun n => .inr (by
    cases q : H x with
    | none => rfl
    | some o => rw [a.keep x o q] at n; cases n), b.zd⟩
theorem Ext.back (a : Ext H Z H1 Z1) {x : Addr} (h : H1 x = none) : H x = none := by
  cases q : H x with
  | none => rfl
  | some o => rw [a.keep x o q] at h; cases h
theorem Ext.zd0 (e : Ext H Z H' Z') (hz : ∀ a, Z a → H a ≠ none) : True := trivial
/-- a new thing that is not data -/
theorem Ext.new {p : Addr} {o : HO} (hz : ∀ a, Z a → H a ≠ none) (h : H p = none) : Ext H Z (upd H p o) Z :=
  ⟨fun a u e => by rw [upd_ne (ne_of_none e h)]; exact e, fun _ h => h, fun _ h => .inl h, fun a z => by
    have := hz a z
    by_cases e : a = p
    · subst e; exact absurd h this
    · rw [upd_ne e]; exact this⟩
theorem SqT.kp {a : Addr} {xs : List V} (e : Kp H Z H' Z') (h : SqT K H a xs) : SqT K H' a xs := h.elim (fun h => .inl (e.tup _ _ h)) .inr
theorem SqL.ext {a : Addr} {xs : List V} (e : Ext H Z H' Z') (h : SqL K H a xs) : SqL K H' a xs := by
  rcases h with (h | ⟨o, h⟩) | h
  · exact .inl (.inl (e.keep _ _ h))
  · exact .inl (.inr ⟨o, e.keep _ _ h⟩)
  · exact .inr h
mutual
theorem RZ.kp (e : Kp H Z H' Z') : ∀ (d : PyData) (v : V), RZ H Z K d v → RZ H' Z' K d v
  | .none, v, h => h
  | .bool b, v, h => h
  | .int i, v, h => h
  | .str s, v, h => h
  | .list ds, v, h => by
    obtain ⟨a, vs, rfl, z, h1, h2⟩ := h
    exact ⟨a, vs, rfl, e.zz _ z, e.zk _ _ z h1, RZs.kp e ds vs h2⟩
  | .tuple ds, v, h => by
    obtain ⟨a, vs, rfl, h1, h2⟩ := h
    exact ⟨a, vs, rfl, SqT.kp e h1, RZs.kp e ds vs h2⟩
  | .dict _, _, h => h
theorem RZs.kp (e : Kp H Z H' Z') : ∀ (ds : List PyData) (vs : List V), RZs H Z K ds vs → RZs H' Z' K ds vs
  | [], vs, h => h
  | d :: ds, vs, h => by
    obtain ⟨v, r, rfl, h1, h2⟩ := h
    exact ⟨v, r, rfl, RZ.kp e d v h1, RZs.kp e ds r h2⟩
end
end
section
variable {H H' H1 H2 : Hp} {Z Z' Z1 Z2 : Zs} {K : PySem.W.Frag} {o : O} {v : V} {fp : List Addr}
theorem sqL_none {a : Addr} {vs : List V} (h : SqL K (fun _ => none) a vs) : SqL K H a vs := by
  rcases h with (h | ⟨o, h⟩) | h
  · cases h
  · cases h
  · exact .inr h
theorem SqS.sql {a : Addr} {vs : List V} (h : SqS H K a vs) : SqL K H a vs := by
  rcases h with ⟨o, h⟩ | h
  · exact .inl (.inr ⟨o, h⟩)
  · exact sqL_none h
theorem SqS.kp (e : Kp H Z H' Z') {a : Addr} {vs : List V} (h : SqS H K a vs) : SqS H' K a vs := by
  rcases h with ⟨o, h⟩ | h
  · exact .inl ⟨o, e.frz _ _ _ h⟩
  · exact .inr h
mutual
theorem Own.frame (e : Kp H Z H' Z') : ∀ (o : O) (v : V) (fp : List Addr), (∀ a ∈ fp, H' a = H a) → Own H Z K o v fp → Own H' Z' K o v fp
  | .z d, v, fp, _, h => ⟨h.1, RZ.kp e d v h.2⟩
  | .l os, v, fp, k, h => by
    obtain ⟨a, vs, g, rfl, rfl, h1, h2⟩ := h
    exact ⟨a, vs, g, rfl, rfl, (k a List.mem_cons_self).trans h1, Owns.frame e os vs g (fun b hb => k b (List.mem_cons_of_mem _ hb)) h2⟩
  | .t os, v, fp, k, h => by
    obtain ⟨a, vs, rfl, h1, h2⟩ := h
    exact ⟨a, vs, rfl, SqT.kp e h1, Owns.frame e os vs fp k h2⟩
  | .dk _, _, _, _, h => h
  | .dt _, _, _, _, h => h
  | .s ns, v, fp, _, h => by
    obtain ⟨e1, a, e2, h⟩ := h
    exact ⟨e1, a, e2, h.kp e⟩
theorem Owns.frame (e : Kp H Z H' Z') : ∀ (os : List O) (vs : List V) (fp : List Addr), (∀ a ∈ fp, H' a = H a) → Owns H Z K os vs fp → Owns H' Z' K os vs fp
  | [], vs, fp, _, h => h
  | o :: os, vs, fp, k, h => by
    obtain ⟨v, r, f, g, rfl, rfl, h1, h2, h3⟩ := h
    exact ⟨v, r, f, g, rfl, rfl, Own.frame e o v f (fun b hb => k b (List.mem_append_left _ hb)) h1, Owns.frame e os r g (fun b hb => k b (List.mem_append_right _ hb)) h2, h3⟩
end
mutual
/-- what is one's own is a list that stands -/
theorem Own.dom : ∀ (o : O) (v : V) (fp : List Addr), Own H Z K o v fp → ∀ a ∈ fp, ∃ vs, H a = some (.lst vs)
  | .z d, v, fp, h, a, ha => by rw [h.1] at ha; cases ha
  | .l os, v, fp, h, a, ha => by
    obtain ⟨b, vs, g, rfl, rfl, h1, h2⟩ := h
    rcases List.mem_cons.mp ha with e | ha
    · exact ⟨vs, e ▸ h1⟩
    · exact Owns.dom os vs g h2 a ha
  | .t os, v, fp, h, a, ha => by
    obtain ⟨b, vs, rfl, h1, h2⟩ := h
    exact Owns.dom os vs fp h2 a ha
  | .dk _, _, _, h, _, _ => h.elim
  | .dt _, _, _, h, _, _ => h.elim
  | .s ns, v, fp, h, a, ha => by rw [h.1] at ha; cases ha
theorem Owns.dom : ∀ (os : List O) (vs : List V) (fp : List Addr), Owns H Z K os vs fp → ∀ a ∈ fp, ∃ vs, H a = some (.lst vs)
  | [], vs, fp, h, a, ha => by rw [h.2] at ha; cases ha
  | o :: os, vs, fp, h, a, ha => by
    obtain ⟨v, r, f, g, rfl, rfl, h1, h2, h3⟩ := h
    rcases List.mem_append.mp ha with ha | ha
    · exact Own.dom o v f h1 a ha
    · exact Owns.dom os r g h2 a ha
end
theorem Own.ne (h : Own H Z K o v fp) {a : Addr} (ha : a ∈ fp) : H a ≠ none := by
  obtain ⟨vs, e⟩ := Own.dom o v fp h a ha
  rw [e]; exact fun z => by cases z
theorem Owns.ne {os : List O} {vs : List V} (h : Owns H Z K os vs fp) {a : Addr} (ha : a ∈ fp) : H a ≠ none := by
  obtain ⟨vs, e⟩ := Owns.dom os vs fp h a ha
  rw [e]; exact fun z => by cases z
theorem Own.ext (e : Ext H Z H' Z') (h : Own H Z K o v fp) : Own H' Z' K o v fp := Own.frame e.kp o v fp (fun a ha => by
  obtain ⟨vs, q⟩ := Own.dom o v fp h a ha
  rw [q]; exact e.keep _ _ q) h
theorem Owns.ext (e : Ext H Z H' Z') {o : List O} {v : List V} (h : Owns H Z K o v fp) : Owns H' Z' K o v fp := Owns.frame e.kp o v fp (fun a ha => by
  obtain ⟨vs, q⟩ := Owns.dom o v fp h a ha
  rw [q]; exact e.keep _ _ q) h
theorem RZ.ext (e : Ext H Z H' Z') {d : PyData} {v : V} (h : RZ H Z K d v) : RZ H' Z' K d v := RZ.kp e.kp d v h
mutual
/-- what was one's own is data once its lists lie in Z -/
theorem Own.data (hz : ∀ a, Z a → Z' a) : ∀ (o : O) (v : V) (fp : List Addr), (∀ a ∈ fp, Z' a) → nS o = true → Own H Z K o v fp → RZ H Z' K (strip o) v
  | .z d, v, fp, _, _, h => by rw [strip]; exact RZ.kp ⟨hz, fun _ _ _ h => h, fun _ _ h => h, fun _ _ _ h => h⟩ d v h.2
  | .l os, v, fp, k, _, h => by
    obtain ⟨a, vs, g, rfl, rfl, h1, h2⟩ := h
    rw [strip]
    exact ⟨a, vs, rfl, k a List.mem_cons_self, h1, Owns.data hz os vs g (fun b hb => k b (List.mem_cons_of_mem _ hb)) h2⟩
  | .t os, v, fp, k, _, h => by
    obtain ⟨a, vs, rfl, h1, h2⟩ := h
    rw [strip]
    exact ⟨a, vs, rfl, h1, Owns.data hz os vs fp k h2⟩
  | .dk _, _, _, _, _, h => h.elim
  | .dt _, _, _, _, _, h => h.elim
  | .s ns, _, _, _, n, _ => by cases n
theorem Owns.data (hz : ∀ a, Z a → Z' a) : ∀ (os : List O) (vs : List V) (fp : List Addr), (∀ a ∈ fp, Z' a) → Owns H Z K os vs fp → RZs H Z' K (strips os) vs
  | [], vs, fp, _, h => h.1
  | o :: os, vs, fp, k, h => by
    obtain ⟨v, r, f, g, rfl, rfl, h1, h2, h3⟩ := h
    rw [strips]
    exact ⟨v, r, rfl, Own.data hz o v f (fun b hb => k b (List.mem_append_left _ hb)) h3 h1, Owns.data hz os r g (fun b hb => k b (List.mem_append_right _ hb)) h2⟩
end
/-- data as own things -/
theorem RZs.owns : ∀ (ds : List PyData) (vs : List V), RZs H Z K ds vs → Owns H Z K (ds.map .z) vs []
  | [], vs, h => ⟨h, rfl⟩
  | d :: ds, vs, h => by
    obtain ⟨v, r, rfl, h1, h2⟩ := h
    exact ⟨v, r, [], [], rfl, rfl, ⟨rfl, h1⟩, RZs.owns ds r h2, rfl⟩
theorem Owns.length : ∀ {os : List O} {vs : List V} {fp : List Addr}, Owns H Z K os vs fp → vs.length = os.length
  | [], vs, fp, h => by rw [h.1]; rfl
  | o :: os, vs, fp, h => by
    obtain ⟨v, r, f, g, rfl, rfl, h1, h2, h3⟩ := h
    rw [List.length_cons, List.length_cons, Owns.length h2]
theorem Owns.get : ∀ {os : List O} {vs : List V} {fp : List Addr} {i : Nat} {o : O}, Owns H Z K os vs fp → os[i]? = some o → ∃ v g, vs[i]? = some v ∧ Own H Z K o v g ∧ nS o = true ∧ ∀ a ∈ g, a ∈ fp
  | [], _, _, _, _, _, e => by cases e
  | o :: os, vs, fp, i, o', h, e => by
    obtain ⟨v, r, f, g, rfl, rfl, h1, h2, h3⟩ := h
    cases i with
    | zero =>
      cases e
      exact ⟨v, f, rfl, h1, h3, fun a ha => List.mem_append_left _ ha⟩
    | succ i =>
      obtain ⟨v', g', e1, e2, e3, e4⟩ := Owns.get (i := i) h2 e
      exact ⟨v', g', e1, e2, e3, fun a ha => List.mem_append_right _ (e4 a ha)⟩
theorem allZ_eq : ∀ {os : List O} {ds : List PyData}, allZ os = some ds → os = ds.map .z
  | [], ds, h => by cases h; rfl
  | .z d :: r, ds, h => by
    rw [allZ] at h
    cases e : allZ r with
    | none => rw [e] at h; cases h
    | some es =>
      rw [e] at h
      cases h
      rw [allZ_eq e]; rfl
  | .l _ :: _, _, h => by cases h
  | .t _ :: _, _, h => by cases h
  | .dk _ :: _, _, h => by cases h
  | .dt _ :: _, _, h => by cases h
  | .s _ :: _, _, h => by cases h
theorem Owns.allz : ∀ {ds : List PyData} {vs : List V} {fp : List Addr}, Owns H Z K (ds.map .z) vs fp → fp = [] ∧ RZs H Z K ds vs
  | [], vs, fp, h => ⟨h.2, h.1⟩
  | d :: ds, vs, fp, h => by
    obtain ⟨v, r, f, g, rfl, rfl, h1, h2, h3⟩ := h
    obtain ⟨e, q⟩ := Owns.allz h2
    exact ⟨by rw [h1.1, e]; rfl, v, r, rfl, h1.2, q⟩
/-- a list, as it is seen -/
theorem Own.seq {os : List O} (h : Own H Z K o v fp) (e : seqO o = some os) : ∃ a vs g, v = .ref a ∧ H a = some (.lst vs) ∧ Owns H Z K os vs g ∧ ((Z a ∧ g = [] ∧ fp = []) ∨ fp = a :: g) := by
  unfold seqO at e
  split at e
  · cases e
    obtain ⟨rfl, a, vs, rfl, z, h1, h2⟩ := h
    exact ⟨a, vs, [], rfl, h1, RZs.owns _ _ h2, .inl ⟨z, rfl, rfl⟩⟩
  · cases e
    obtain ⟨a, vs, g, rfl, rfl, h1, h2⟩ := h
    exact ⟨a, vs, g, rfl, h1, h2, .inr rfl⟩
  · cases e
theorem Own.tup {os : List O} (h : Own H Z K o v fp) (e : tupO o = some os) : ∃ a vs, v = .ref a ∧ SqT K H a vs ∧ Owns H Z K os vs fp := by
  unfold tupO at e
  split at e
  · cases e
    obtain ⟨rfl, a, vs, rfl, h1, h2⟩ := h
    exact ⟨a, vs, rfl, h1, RZs.owns _ _ h2⟩
  · cases e
    exact h
  · cases e
theorem Own.lz {ds : List PyData} (h : Own H Z K o v fp) (e : lz o = some ds) : ∃ a vs, v = .ref a ∧ H a = some (.lst vs) ∧ RZs H Z K ds vs := by
  unfold U.lz at e
  cases q : seqO o with
  | none => rw [q] at e; cases e
  | some os =>
    rw [q] at e
    obtain ⟨a, vs, g, e1, e2, e3, _⟩ := h.seq q
    rw [allZ_eq e] at e3
    exact ⟨a, vs, e1, e2, e3.allz.2⟩
theorem Own.tz {ds : List PyData} (h : Own H Z K o v fp) (e : tz o = some ds) : ∃ a vs, v = .ref a ∧ SqT K H a vs ∧ RZs H Z K ds vs := by
  unfold U.tz at e
  cases q : tupO o with
  | none => rw [q] at e; cases e
  | some os =>
    rw [q] at e
    obtain ⟨a, vs, e1, e2, e3⟩ := h.tup q
    rw [allZ_eq e] at e3
    exact ⟨a, vs, e1, e2, e3.allz.2⟩
theorem RZs.length {ds : List PyData} {vs : List V} (h : RZs H Z K ds vs) : vs.length = ds.length := by
  have := (RZs.owns ds vs h).length
  rw [List.length_map] at this
  exact this
theorem RZs.app : ∀ {ds es : List PyData} {vs ws : List V}, RZs H Z K ds vs → RZs H Z K es ws → RZs H Z K (ds ++ es) (vs ++ ws)
  | [], es, vs, ws, h, h' => by rw [show vs = [] from h]; exact h'
  | d :: ds, es, vs, ws, h, h' => by
    obtain ⟨v, r, rfl, h1, h2⟩ := h
    exact ⟨v, r ++ ws, rfl, h1, RZs.app h2 h'⟩
theorem Owns.app : ∀ {os ps : List O} {vs ws : List V} {f g : List Addr}, Owns H Z K os vs f → Owns H Z K ps ws g → Owns H Z K (os ++ ps) (vs ++ ws) (f ++ g)
  | [], ps, vs, ws, f, g, h, h' => by rw [h.1, h.2]; exact h'
  | o :: os, ps, vs, ws, f, g, h, h' => by
    obtain ⟨v, r, f1, g1, rfl, rfl, h1, h2, h3⟩ := h
    exact ⟨v, r ++ ws, f1, g1 ++ g, rfl, by rw [List.append_assoc], h1, Owns.app h2 h', h3⟩
mutual
/-- HandS's data -/
theorem RZ.dp : ∀ (d : PyData) (v : V), RZ H Z K d v → Dp K H v d
  | .none, v, h => by rw [show v = .non from h]; exact .non
  | .bool b, v, h => by rw [show v = .bl b from h]; exact .bl b
  | .int i, v, h => by rw [show v = .int i from h]; exact .int i
  | .str s, v, h => by rw [show v = .str s from h]; exact .str s
  | .list ds, v, h => by
    obtain ⟨a, vs, rfl, z, h1, h2⟩ := h
    exact .lst (SqL.of h1) (RZs.dp ds vs h2)
  | .tuple ds, v, h => by
    obtain ⟨a, vs, rfl, h1, h2⟩ := h
    exact .tup h1 (RZs.dp ds vs h2)
  | .dict _, v, h => h.elim
theorem RZs.dp : ∀ (ds : List PyData) (vs : List V), RZs H Z K ds vs → DpAll K H vs ds
  | [], vs, h => by rw [show vs = [] from h]; exact .nil
  | d :: ds, vs, h => by
    obtain ⟨v, r, rfl, h1, h2⟩ := h
    exact .cons (RZ.dp d v h1) (RZs.dp ds r h2)
end
mutual
theorem Own.dp : ∀ (o : O) (v : V) (fp : List Addr), nS o = true → Own H Z K o v fp → Dp K H v (strip o)
  | .z d, v, fp, _, h => by rw [strip]; exact RZ.dp d v h.2
  | .l os, v, fp, _, h => by
    obtain ⟨a, vs, g, rfl, rfl, h1, h2⟩ := h
    rw [strip]
    exact .lst (SqL.of h1) (Owns.dp os vs g h2)
  | .t os, v, fp, _, h => by
    obtain ⟨a, vs, rfl, h1, h2⟩ := h
    rw [strip]
    exact .tup h1 (Owns.dp os vs fp h2)
  | .dk _, _, _, _, h => h.elim
  | .dt _, _, _, _, h => h.elim
  | .s ns, _, _, n, _ => by cases n
theorem Owns.dp : ∀ (os : List O) (vs : List V) (fp : List Addr), Owns H Z K os vs fp → DpAll K H vs (strips os)
  | [], vs, fp, h => by rw [h.1]; exact .nil
  | o :: os, vs, fp, h => by
    obtain ⟨v, r, f, g, rfl, rfl, h1, h2, h3⟩ := h
    rw [strips]
    exact .cons (Own.dp o v f h3 h1) (Owns.dp os r g h2)
end
end

/-! ### the slots -/
def SlOk (H0 : Hp) (Z0 : Zs) (H : Hp) (Z : Zs) (K : PySem.W.Frag) : Option Sl → Option V → List Addr → Prop
  | none, _, fp => fp = []
  | some (.w o), w, fp => ∃ v, w = some v ∧ Own H Z K o v fp
  | some (.r o), w, fp => fp = [] ∧ ∃ v g, w = some v ∧ Own H0 Z0 K o v g
def Sls (H0 : Hp) (Z0 : Zs) (H : Hp) (Z : Zs) (K : PySem.W.Frag) : Env → St → List Addr → Prop
  | [], σ, fp => σ = [] ∧ fp = []
  | s :: ρ, σ, fp => ∃ w τ f g, σ = w :: τ ∧ fp = f ++ g ∧ SlOk H0 Z0 H Z K s w f ∧ Sls H0 Z0 H Z K ρ τ g
/-- the state: H0, Z0 at the entry -/
structure SR (K : PySem.W.Frag) (H0 : Hp) (Z0 : Zs) (H : Hp) (Z : Zs) (σ : St) (ρ : Env) : Prop where
  ext : Ext H0 Z0 H Z
  own : ∃ fp, Sls H0 Z0 H Z K ρ σ fp ∧ fp.Nodup ∧ ∀ a ∈ fp, ¬ Z a ∧ H0 a = none
section
variable {K : PySem.W.Frag} {H0 H H' : Hp} {Z0 Z Z' : Zs} {σ : St} {ρ : Env} {fp : List Addr}
theorem SlOk.dom : ∀ {s : Option Sl} {w : Option V} {fp : List Addr}, SlOk H0 Z0 H Z K s w fp → ∀ a ∈ fp, ∃ vs, H a = some (.lst vs)
  | none, _, _, h, a, ha => by rw [show _ = [] from h] at ha; cases ha
  | some (.w o), _, _, h, a, ha => by
    obtain ⟨v, _, h⟩ := h
    exact Own.dom o v _ h a ha
  | some (.r o), _, _, h, a, ha => by rw [h.1] at ha; cases ha
theorem Sls.dom : ∀ {ρ : Env} {σ : St} {fp : List Addr}, Sls H0 Z0 H Z K ρ σ fp → ∀ a ∈ fp, ∃ vs, H a = some (.lst vs)
  | [], σ, fp, h, a, ha => by rw [h.2] at ha; cases ha
  | s :: ρ, σ, fp, h, a, ha => by
    obtain ⟨w, τ, f, g, rfl, rfl, h1, h2⟩ := h
    rcases List.mem_append.mp ha with ha | ha
    · exact SlOk.dom h1 a ha
    · exact Sls.dom h2 a ha
theorem SlOk.frame (e : Kp H Z H' Z') : ∀ {s : Option Sl} {w : Option V} {fp : List Addr}, (∀ a ∈ fp, H' a = H a) → SlOk H0 Z0 H Z K s w fp → SlOk H0 Z0 H' Z' K s w fp
  | none, _, _, _, h => h
  | some (.w o), _, _, k, h => by
    obtain ⟨v, e1, h⟩ := h
    exact ⟨v, e1, Own.frame e o v _ k h⟩
  | some (.r o), _, _, _, h => h
theorem Sls.frame (e : Kp H Z H' Z') : ∀ {ρ : Env} {σ : St} {fp : List Addr}, (∀ a ∈ fp, H' a = H a) → Sls H0 Z0 H Z K ρ σ fp → Sls H0 Z0 H' Z' K ρ σ fp
  | [], σ, fp, _, h => h
  | s :: ρ, σ, fp, k, h => by
    obtain ⟨w, τ, f, g, rfl, rfl, h1, h2⟩ := h
    exact ⟨w, τ, f, g, rfl, rfl, SlOk.frame e (fun a ha => k a (List.mem_append_left _ ha)) h1, Sls.frame e (fun a ha => k a (List.mem_append_right _ ha)) h2⟩
theorem Sls.len : ∀ {ρ : Env} {σ : St} {fp : List Addr}, Sls H0 Z0 H Z K ρ σ fp → σ.length = ρ.length
  | [], σ, fp, h => by rw [h.1]; rfl
  | s :: ρ, σ, fp, h => by
    obtain ⟨w, τ, f, g, rfl, rfl, h1, h2⟩ := h
    rw [List.length_cons, List.length_cons, Sls.len h2]
theorem SR.grow (S : SR K H0 Z0 H Z σ ρ) (e : Ext H Z H' Z') : SR K H0 Z0 H' Z' σ ρ := by
  obtain ⟨fp, h, nd, k⟩ := S.own
  have dm := Sls.dom h
  refine ⟨S.ext.trans e, fp, Sls.frame e.kp (fun a ha => ?_) h, nd, fun a ha => ⟨fun z => ?_, (k a ha).2⟩⟩
  · obtain ⟨vs, q⟩ := dm a ha
    rw [q]; exact e.keep _ _ q
  · rcases e.zn a z with z | z
    · exact (k a ha).1 z
    · obtain ⟨vs, q⟩ := dm a ha
      rw [q] at z; cases z
theorem Sls.get : ∀ {ρ : Env} {σ : St} {fp : List Addr} {i : Nat} {s : Option Sl}, Sls H0 Z0 H Z K ρ σ fp → ρ[i]? = some s → ∃ w f, σ[i]? = some w ∧ SlOk H0 Z0 H Z K s w f ∧ ∀ a ∈ f, a ∈ fp
  | [], _, _, _, _, _, e => by cases e
  | s :: ρ, σ, fp, i, s', h, e => by
    obtain ⟨w, τ, f, g, rfl, rfl, h1, h2⟩ := h
    cases i with
    | zero =>
      cases e
      exact ⟨w, f, rfl, h1, fun a ha => List.mem_append_left _ ha⟩
    | succ i =>
      obtain ⟨w', f', e1, e2, e3⟩ := Sls.get (i := i) h2 e
      exact ⟨w', f', e1, e2, fun a ha => List.mem_append_right _ (e3 a ha)⟩
theorem SR.getW (S : SR K H0 Z0 H Z σ ρ) {i : Nat} {o : O} (e : ρ[i]? = some (some (.w o))) : ∃ v f, σ[i]? = some (some v) ∧ Own H Z K o v f := by
  obtain ⟨fp, h, nd, k⟩ := S.own
  obtain ⟨w, f, e1, ⟨v, rfl, h2⟩, e3⟩ := Sls.get h e
  exact ⟨v, f, e1, h2⟩
theorem SR.getR (S : SR K H0 Z0 H Z σ ρ) {i : Nat} {o : O} (e : ρ[i]? = some (some (.r o))) : ∃ v f, σ[i]? = some (some v) ∧ Own H Z K o v f := by
  obtain ⟨fp, h, nd, k⟩ := S.own
  obtain ⟨w, f, e1, ⟨_, v, g, rfl, h2⟩, e3⟩ := Sls.get h e
  exact ⟨v, g, e1, h2.ext S.ext⟩
/-- the slots but one, and the one -/
theorem Sls.part : ∀ {ρ : Env} {σ : St} {fp : List Addr} {i : Nat} {s : Option Sl}, Sls H0 Z0 H Z K ρ σ fp → ρ[i]? = some s → ∃ w f g g', σ[i]? = some w ∧ SlOk H0 Z0 H Z K s w f ∧ fp = g ++ f ++ g' ∧
    ∀ (H' : Hp) (Z' : Zs) (s' : Option Sl) (w' : Option V) (f' : List Addr), Kp H Z H' Z' → (∀ a, a ∈ g ∨ a ∈ g' → H' a = H a) → SlOk H0 Z0 H' Z' K s' w' f' → Sls H0 Z0 H' Z' K (ρ.set i s') (σ.set i w') (g ++ f' ++ g')
  | [], _, _, _, _, _, e => by cases e
  | s :: ρ, σ, fp, i, s', h, e => by
    obtain ⟨w, τ, f, g, rfl, rfl, h1, h2⟩ := h
    cases i with
    | zero =>
      cases e
      exact ⟨w, f, [], g, rfl, h1, rfl, fun H' Z' s' w' f' kp k q => ⟨w', τ, f', g, rfl, rfl, q, Sls.frame kp (fun a ha => k a (.inr ha)) h2⟩⟩
    | succ i =>
      obtain ⟨w', f', g1, g2, e1, e2, rfl, q⟩ := Sls.part (i := i) h2 e
      refine ⟨w', f', f ++ g1, g2, e1, e2, by simp [List.append_assoc], fun H' Z' s' w'' f'' kp k z => ?_⟩
      refine ⟨w, τ.set i w'', f, g1 ++ f'' ++ g2, rfl, by simp [List.append_assoc], SlOk.frame kp (fun a ha => k a (.inl (List.mem_append_left _ ha))) h1, q H' Z' s' w'' f'' kp (fun a ha => k a ?_) z⟩
      rcases ha with ha | ha
      · exact .inl (List.mem_append_right _ ha)
      · exact .inr ha
/-- a slot is stored: o is new, or data -/
theorem SR.put (S : SR K H0 Z0 H Z σ ρ) (e : Ext H Z H' Z') {i : Nat} {o : O} {v : V} {f' : List Addr} (ho : Own H' Z' K o v f') (nd' : f'.Nodup) (fr : ∀ a ∈ f', ¬ Z' a ∧ H a = none) : SR K H0 Z0 H' Z' (σ.set i (some v)) (ρ.set i (some (.w o))) := by
  obtain ⟨fp, h, nd, k⟩ := S.own
  have dm := Sls.dom h
  have keep : ∀ a ∈ fp, H' a = H a := fun a ha => by
    obtain ⟨vs, q⟩ := dm a ha
    rw [q]; exact e.keep _ _ q
  have nz : ∀ a ∈ fp, ¬ Z' a := fun a ha z => by
    rcases e.zn a z with z | z
    · exact (k a ha).1 z
    · obtain ⟨vs, q⟩ := dm a ha
      rw [q] at z; cases z
  have dj : ∀ a ∈ f', ∀ b ∈ fp, a ≠ b := fun a ha b hb q => by
    obtain ⟨vs, q2⟩ := dm b hb
    rw [← q, (fr a ha).2] at q2; cases q2
  by_cases hi : i < ρ.length
  · obtain ⟨w, f, g, g', e1, e2, rfl, q⟩ := Sls.part h (List.getElem?_eq_getElem hi)
    have hf : ∀ a, a ∈ g ∨ a ∈ g' → a ∈ g ++ f ++ g' := fun a ha => by
      rcases ha with ha | ha
      · exact List.mem_append_left _ (List.mem_append_left _ ha)
      · exact List.mem_append_right _ ha
    refine ⟨S.ext.trans e, g ++ f' ++ g', q H' Z' _ _ f' e.kp (fun a ha => keep a (hf a ha)) ⟨v, rfl, ho⟩, ?_, fun a ha => ?_⟩
    · rw [List.append_assoc, List.nodup_append] at nd ⊢
      obtain ⟨n1, n2, n3⟩ := nd
      rw [List.nodup_append] at n2
      refine ⟨n1, List.nodup_append.mpr ⟨nd', n2.2.1, fun a ha b hb => dj a ha b (hf b (.inr hb))⟩, fun a ha b hb => ?_⟩
      rcases List.mem_append.mp hb with hb | hb
      · exact fun z => dj b hb a (hf a (.inl ha)) z.symm
      · exact n3 a ha b (List.mem_append_right _ hb)
    · rcases List.mem_append.mp ha with ha | ha
      · rcases List.mem_append.mp ha with ha | ha
        · exact ⟨nz a (hf a (.inl ha)), (k a (hf a (.inl ha))).2⟩
        · exact ⟨(fr a ha).1, S.ext.back (fr a ha).2⟩
      · exact ⟨nz a (hf a (.inr ha)), (k a (hf a (.inr ha))).2⟩
  · have hl := Sls.len h
    rw [List.set_eq_of_length_le (by omega), List.set_eq_of_length_le (by omega)]
    exact S.grow e
end

/-! ### the judgements -/
/-- what is asked where an error of the class named c comes out, that bears d -/
def ErrP (X : Cx) (W : WX) (σ : St) (H : Hp) (Z : Zs) (c : Str) (d : PyData) : Prop :=
  ∀ C dx v H' Z', X.mg c = some (.ref C) → Ext H Z H' Z' → H' dx = some (.xd [("at", v)]) → RZ H' Z' X.K d v → W (.ref C) (some dx) σ H'
/-- new: fp is all new -/
def New (H : Hp) (Z' : Zs) (g : List Addr) : Prop := g.Nodup ∧ ∀ a ∈ g, ¬ Z' a ∧ H a = none
theorem New.nil {H : Hp} {Z' : Zs} : New H Z' [] := ⟨List.nodup_nil, fun _ h => by cases h⟩
def PostE (X : Cx) (W : WX) (own : Prop) (σ : St) (H : Hp) (Z : Zs) (r : Res O) (Q : VK) : Prop := match r with
  | .ok o => ∀ v H' Z' g, Ext H Z H' Z' → Own H' Z' X.K o v g → (own → New H Z' g) → Q v H'
  | .err c d => ErrP X W σ H Z c d
  | .bad => False
def PostT (X : Cx) (W : WX) (σ : St) (H : Hp) (Z : Zs) (r : Res Bool) (Q : Bool → Hp → Prop) : Prop := match r with
  | .ok b => ∀ H' Z', Ext H Z H' Z' → Q b H'
  | .err c d => ErrP X W σ H Z c d
  | .bad => False
def OwnA (H : Hp) (Z : Zs) (K : PySem.W.Frag) : List O → List V → List Addr → Prop
  | [], vs, fp => vs = [] ∧ fp = []
  | o :: os, vs, fp => ∃ v r f g, vs = v :: r ∧ fp = f ++ g ∧ Own H Z K o v f ∧ OwnA H Z K os r g
def PostA (X : Cx) (W : WX) (own : Prop) (σ : St) (H : Hp) (Z : Zs) (r : Res (List O)) (Q : List V → Hp → Prop) : Prop := match r with
  | .ok os => ∀ vs H' Z' g, Ext H Z H' Z' → OwnA H' Z' X.K os vs g → (own → New H Z' g) → Q vs H'
  | .err c d => ErrP X W σ H Z c d
  | .bad => False
/-- a reading that does what f says -/
abbrev Sat (X : Cx) (W : WX) (own : Prop) (t : TE) (f : EV) : Prop := ∀ {H0 Z0 H Z σ ρ}, SR X.K H0 Z0 H Z σ ρ → ∀ Q, PostE X W own σ H Z (f ρ) Q → t σ H Q
abbrev SatT (X : Cx) (W : WX) (t : TT) (f : EB) : Prop := ∀ {H0 Z0 H Z σ ρ}, SR X.K H0 Z0 H Z σ ρ → ∀ Q, PostT X W σ H Z (f ρ) Q → t σ H Q
/-- an expression: its value's own things are new (own), or somebody's -/
structure PX (X : Cx) (W : WX) (own : Prop) (e : Expr) (f : EV) : Prop where
  ex : ∃ t : TE, PE X e t ∧ Sat X W own t f
abbrev PuE (X : Cx) (W : WX) := PX X W True
abbrev PuB (X : Cx) (W : WX) := PX X W False
structure PuT (X : Cx) (W : WX) (e : Expr) (f : EB) : Prop where
  ex : ∃ t : TT, PT X e t ∧ SatT X W t f
structure PAX (X : Cx) (W : WX) (own : Prop) (es : List Expr) (f : EA) : Prop where
  len : ∀ ρ os, f ρ = .ok os → os.length = es.length
  ex : ∃ t : TA, PA X es t ∧ ∀ {H0 Z0 H Z σ ρ}, SR X.K H0 Z0 H Z σ ρ → ∀ Q, PostA X W own σ H Z (f ρ) Q → t σ H Q
abbrev PuA (X : Cx) (W : WX) := PAX X W True
abbrev PuAB (X : Cx) (W : WX) := PAX X W False
section
variable {X : Cx} {W : WX} {own : Prop} {e a b c : Expr} {f fa fb fc : EV} {pos : Pos} {H0 H H' : Hp} {Z0 Z Z' : Zs} {σ : St} {ρ : Env}
theorem ErrP.grow {cn : Str} {d : PyData} (h : ErrP X W σ H Z cn d) (e : Ext H Z H' Z') : ErrP X W σ H' Z' cn d := fun C dx v H2 Z2 m e2 h2 r => h C dx v H2 Z2 m (e.trans e2) h2 r
theorem New.grow {Z1 : Zs} {H1 : Hp} {g : List Addr} (h : New H1 Z1 g) (e : Ext H Z H1 Z') : New H Z1 g := ⟨h.1, fun a ha => ⟨(h.2 a ha).1, e.back (h.2 a ha).2⟩⟩
/-- what was new stays new while the heap grows -/
theorem New.later {H1 H2 : Hp} {Z1 Z2 : Zs} {g : List Addr} {K : PySem.W.Frag} (h : New H Z1 g) (dm : ∀ a ∈ g, H1 a ≠ none) (e : Ext H1 Z1 H2 Z2) : New H Z2 g := ⟨h.1, fun a ha => ⟨fun z => by
  rcases e.zn a z with z | z
  · exact (h.2 a ha).1 z
  · exact dm a ha z, (h.2 a ha).2⟩⟩
theorem New.app {Z1 : Zs} {H1 : Hp} {g g' : List Addr} (h : New H Z1 g) (dm : ∀ a ∈ g, H1 a ≠ none) (h' : New H1 Z1 g') (e : ∀ a, H1 a = none → H a = none) : New H Z1 (g ++ g') :=
  ⟨List.nodup_append.mpr ⟨h.1, h'.1, fun a ha b hb q => dm a ha (by rw [q]; exact (h'.2 b hb).2)⟩, fun a ha => by
    rcases List.mem_append.mp ha with ha | ha
    · exact h.2 a ha
    · exact ⟨(h'.2 a ha).1, e a (h'.2 a ha).2⟩⟩
/-- lent, where it is new -/
theorem PX.br (h : PuE X W e f) : PuB X W e f := by
  obtain ⟨t, ht, q⟩ := h.ex
  refine ⟨t, ht, fun S Q p => q S Q ?_⟩
  revert p
  unfold PostE
  cases f _ with
  | ok o => exact fun p v H' Z' g e1 e2 _ => p v H' Z' g e1 e2 False.elim
  | err c d => exact id
  | bad => exact id
/-! #### names, constants -/
theorem pu_var (i : Nat) {x : Str} (hN : X.N[i]? = some x) (hv : Vis X.env.scope x) (hd : (x == ("__debug__" : Str)) = false) (hcd : (x == ("__classdict__" : Str)) = false) : PuB X W (.Name x pos) (eVar i) := by
  refine ⟨tVar i, pe_var hN hv hd hcd, fun {H0 Z0 H Z σ ρ} S Q p => ?_⟩
  unfold PostE eVar at p
  cases hr : ρ[i]? with
  | none => rw [hr] at p; exact p.elim
  | some s =>
    rw [hr] at p
    cases s with
    | none => exact p.elim
    | some s =>
      cases s with
      | w o =>
        obtain ⟨v, g, e1, e2⟩ := S.getW hr
        exact ⟨v, e1, p v H Z g (Ext.refl S.ext.zd) e2 False.elim⟩
      | r o =>
        obtain ⟨v, g, e1, e2⟩ := S.getR hr
        exact ⟨v, e1, p v H Z g (Ext.refl S.ext.zd) e2 False.elim⟩
/-- an expression from a borrowed one, by what is done with it -/
theorem pu_c {v : V} {d : PyData} (h : PE X e (tC v)) (hd : ∀ H Z, RZ H Z X.K d v) : PuE X W e (eC d) :=
  ⟨tC v, h, fun {H0 Z0 H Z σ ρ} S Q p => p v H Z [] (Ext.refl S.ext.zd) ⟨rfl, hd H Z⟩ fun _ => New.nil⟩
theorem pu_int {i : Int} {j : Nat} : PuE X W (.Constant (.int i) j pos) (eC (.int i)) := pu_c pe_int fun _ _ => rfl
theorem pu_bl {b : Bool} {j : Nat} : PuE X W (.Constant (.bool b) j pos) (eC (.bool b)) := pu_c pe_bl fun _ _ => rfl
theorem pu_non {j : Nat} : PuE X W (.Constant .none j pos) (eC .none) := pu_c pe_non fun _ _ => rfl
theorem pu_str {x : Str} {j : Nat} : PuE X W (.Constant (.str x) j pos) (eC (.str x)) := pu_c pe_str fun _ _ => rfl
/-- data alone -/
theorem pu_z (h : PuB X W e f) : PuE X W e (eZ f) := by
  obtain ⟨t, ht, q⟩ := h.ex
  refine ⟨t, ht, fun {H0 Z0 H Z σ ρ} S Q p => q S Q ?_⟩
  revert p
  unfold PostE eZ e1 gZ
  cases f ρ with
  | ok o =>
    cases o with
    | z d => exact fun p v H' Z' g e1 e2 _ => p v H' Z' [] e1 (by rw [e2.1] at e2; exact e2) fun _ => New.nil
    | _ => exact fun p => p.elim
  | err c d => exact id
  | bad => exact id
/-- what is new is made data -/
theorem pu_fz (h : PuE X W e f) : PuE X W e (eFz f) := by
  obtain ⟨t, ht, q⟩ := h.ex
  refine ⟨t, ht, fun {H0 Z0 H Z σ ρ} S Q p => q S Q ?_⟩
  revert p
  unfold PostE eFz e1
  cases f ρ with
  | ok o =>
    unfold gFz
    by_cases hn : nS o = true
    · rw [Res.bind_ok, if_pos hn]
      refine fun p v H' Z' g e1 e2 n => p v H' (fun a => Z' a ∨ a ∈ g) [] ⟨e1.keep, fun a z => .inl (e1.zz a z), fun a z => ?_, fun a z => ?_⟩ ⟨rfl, ?_⟩ fun _ => New.nil
      · rcases z with z | z
        · exact e1.zn a z
        · exact .inr ((n trivial).2 a z).2
      · rcases z with z | z
        · exact e1.zd a z
        · exact e2.ne z
      · exact Own.data (fun a z => .inl z) o v g (fun a ha => .inr ha) hn e2
    · rw [Res.bind_ok, if_neg hn]
      exact fun p => p.elim
  | err c d => exact id
  | bad => exact id
end

/-! ### operators by values -/
def PostG (H : Hp) (Z : Zs) (K : PySem.W.Frag) (r : Res O) (Q : VK) : Prop := match r with
  | .ok q => ∀ v H' Z' g, Ext H Z H' Z' → Own H' Z' K q v g → New H Z' g → Q v H'
  | _ => False
def GR2 (K : PySem.W.Frag) (r : R2) (g : O → O → Res O) : Prop :=
  ∀ {H : Hp} {Z : Zs} {x y : V} {o p : O} {f1 f2 : List Addr}, (∀ a, Z a → H a ≠ none) → Own H Z K o x f1 → Own H Z K p y f2 → ∀ Q : VK, PostG H Z K (g o p) Q → r x y H Q
def GR1 (K : PySem.W.Frag) (r : V → Hp → VK → Prop) (g : O → Res O) : Prop :=
  ∀ {H : Hp} {Z : Zs} {x : V} {o : O} {f1 : List Addr}, (∀ a, Z a → H a ≠ none) → Own H Z K o x f1 → ∀ Q : VK, PostG H Z K (g o) Q → r x H Q
section
variable {X : Cx} {W : WX} {own : Prop} {e a b c : Expr} {f fa fb fc : EV} {pos : Pos} {K : PySem.W.Frag} {r r' : R2} {g g' : O → O → Res O} {H : Hp} {Z : Zs}
theorem PostG.z {d : PyData} {Q : VK} (hz : ∀ a, Z a → H a ≠ none) {v : V} (h : RZ H Z K d v) (p : PostG H Z K (.ok (.z d)) Q) : Q v H := p v H Z [] (Ext.refl hz) ⟨rfl, h⟩ New.nil
theorem rz_int {i : Int} : RZ H Z K (.int i) (.int i) := rfl
theorem rz_bl {b : Bool} : RZ H Z K (.bool b) (.bl b) := rfl
/-- a new list -/
theorem PostG.lst {ds : List PyData} {Q : VK} (hz : ∀ a, Z a → H a ≠ none) {vs : List V} (h : RZs H Z K ds vs) (p : PostG H Z K (.ok (.l (ds.map .z))) Q) {q : Addr} (hq : H q = none) : Q (.ref q) (upd H q (.lst vs)) := by
  have e := Ext.new (Z := Z) (o := .lst vs) hz hq
  refine p (.ref q) _ Z [q] e ⟨q, vs, [], rfl, rfl, upd_same, Owns.ext e (RZs.owns _ _ h)⟩ ⟨by simp, fun a ha => ?_⟩
  have ea : a = q := by simpa using ha
  subst ea
  exact ⟨fun z => hz a z hq, hq⟩
theorem sat_2 {ta tb : TE} (qa : Sat X W False ta fa) (qb : Sat X W False tb fb) (G : GR2 X.K r g) : Sat X W True (tOp r ta tb) (e2 g fa fb) := by
  intro H0 Z0 H Z σ ρ S Q p
  unfold tOp
  refine qa S _ ?_
  revert p
  unfold e2 PostE
  cases fa ρ with
  | bad => exact fun p => p
  | err cn d => exact fun p => p
  | ok o =>
    intro p v1 H1 Z1 g1 e1 o1 _
    refine qb (S.grow e1) _ ?_
    revert p
    show PostE X W True σ H Z ((fb ρ).bind fun b => (g o b).nox) Q → PostE X W False σ H1 Z1 (fb ρ) _
    cases fb ρ with
    | bad => exact fun p => p
    | err cn d => exact fun p => ErrP.grow p e1
    | ok o' =>
      intro p v2 H2 Z2 g2 e2 o2 _
      refine G e2.zd (o1.ext e2) o2 Q ?_
      revert p
      show PostE X W True σ H Z (g o o').nox Q → PostG H2 Z2 X.K (g o o') Q
      cases g o o' with
      | ok q => exact fun p v3 H3 Z3 g3 e3 o3 n3 => p v3 H3 Z3 g3 ((e1.trans e2).trans e3) o3 fun _ => n3.grow (e1.trans e2)
      | err _ _ => exact fun p => p
      | bad => exact fun p => p
theorem pu_op {op : Operator} (ho : OpR X (binaryOp op) r) (G : GR2 X.K r g) (ha : PuB X W a fa) (hb : PuB X W b fb) : PuE X W (.BinOp a op b pos) (e2 g fa fb) := by
  obtain ⟨ta, pa, qa⟩ := ha.ex
  obtain ⟨tb, pb, qb⟩ := hb.ex
  exact ⟨_, pe_op ho pa pb, sat_2 qa qb G⟩
theorem pu_cmp {op : CmpOp} (ho : OpR X (compareOp op) r) (G : GR2 X.K r g) (hm : behindInMarks op b = false) (ha : PuB X W a fa) (hb : PuB X W b fb) : PuE X W (.Compare a [op] [b] pos) (e2 g fa fb) := by
  obtain ⟨ta, pa, qa⟩ := ha.ex
  obtain ⟨tb, pb, qb⟩ := hb.ex
  exact ⟨_, pe_cmpR ho pa pb hm, sat_2 qa qb G⟩
theorem sat_t {own : Prop} {t : TE} (q : Sat X W own t f) : SatT X W (tTest t) (U.tB f) := by
  intro H0 Z0 H Z σ ρ S Q p
  refine q S _ ?_
  revert p
  unfold U.tB PostE PostT
  cases f ρ with
  | bad => exact fun p => p
  | err cn d => exact fun p => p
  | ok o =>
    cases o with
    | z d =>
      cases d with
      | bool k => exact fun p v H' Z' g e o _ => ⟨k, o.2, p H' Z' e⟩
      | _ => exact fun p => p.elim
    | _ => exact fun p => p.elim
theorem pt_cmp' {op : CmpOp} (ho : OpR X (compareOp op) r) (G : GR2 X.K r g) (hm : behindInMarks op b = false) (ha : PuB X W a fa) (hb : PuB X W b fb) : PuT X W (.Compare a [op] [b] pos) (U.tB (e2 g fa fb)) := by
  obtain ⟨ta, pa, qa⟩ := ha.ex
  obtain ⟨tb, pb, qb⟩ := hb.ex
  exact ⟨_, pt_cmpR ho pa pb hm, sat_t (sat_2 qa qb G)⟩
theorem pu_ix (hs : PlainIx b) (hr : IxR X r) (G : GR2 X.K r g) (ha : PuB X W a fa) (hb : PuB X W b fb) : PuE X W (.Subscript a b pos) (e2 g fa fb) := by
  obtain ⟨ta, pa, qa⟩ := ha.ex
  obtain ⟨tb, pb, qb⟩ := hb.ex
  exact ⟨_, pe_ix hr pa pb hs, sat_2 qa qb G⟩
theorem GR2.or (h : GR2 K r g) (h' : GR2 K r' g) : GR2 K (fun x y H Q => r x y H Q ∨ r' x y H Q) g := fun hz o1 o2 Q p => .inl (h hz o1 o2 Q p)
/-- whole numbers -/
theorem gr_I {C : Int → Int → Prop} {k : Int → Int → Int} {q : Int → Int → Res PyData} (hq : ∀ i j d, q i j = .ok d → C i j ∧ d = .int (k i j)) : GR2 K (rI C fun i j => .int (k i j)) (gI q) := fun {H Z x y o p f1 f2} hz o1 o2 Q => by
  unfold gI
  split
  · rename_i i j
    obtain ⟨_, rfl⟩ := o1
    obtain ⟨_, rfl⟩ := o2
    cases e : q i j with
    | ok d =>
      obtain ⟨hc, rfl⟩ := hq i j d e
      exact fun p => ⟨i, j, rfl, rfl, hc, PostG.z hz rz_int p⟩
    | err _ _ => exact fun p => p.elim
    | bad => exact fun p => p.elim
  · exact fun p => p.elim
theorem gr_sub : GR2 K (rI0 fun i j => .int (i - j)) gSub := fun {H Z x y o p f1 f2} hz o1 o2 Q pq => by
  obtain ⟨i, j, e1, e2, _, q⟩ := gr_I (C := fun _ _ => True) (k := fun i j => i - j) (fun i j d h => by cases h; exact ⟨trivial, rfl⟩) hz o1 o2 Q pq
  exact ⟨i, j, e1, e2, q⟩
theorem gr_mod : GR2 K (rI (fun _ j => j ≠ 0) fun i j => .int (i.fmod j)) gMod := gr_I fun i j d h => by
  by_cases hj : j ≠ 0
  · rw [if_pos hj] at h; cases h; exact ⟨hj, rfl⟩
  · rw [if_neg hj] at h; cases h
theorem gr_div : GR2 K (rI CDivN fun i j => .int (i.fdiv j)) gDiv := gr_I fun i j d h => by
  by_cases hj : j ≠ 0 ∧ j.natAbs < 1073741824
  · rw [if_pos hj] at h; cases h; exact ⟨hj, rfl⟩
  · rw [if_neg hj] at h; cases h
theorem gr_pow : GR2 K (rI CPow fun i j => .int (i ^ j.toNat)) gPow := gr_I fun i j d h => by
  by_cases hj : 0 ≤ j ∧ j ≤ 1000000 ∧ i.natAbs < 2 ^ 64
  · rw [if_pos hj] at h; cases h; exact ⟨hj, rfl⟩
  · rw [if_neg hj] at h; cases h
theorem line_eq : lineMax = sizeLine := by rw [sizeLine_eq]; rfl
theorem gr_add : GR2 K (fun x y H Q => rI0 (fun i j => .int (i + j)) x y H Q ∨ rCat x y H Q) gAdd := fun {H Z x y o p f1 f2} hz o1 o2 Q => by
  unfold gAdd
  split
  · obtain ⟨_, rfl⟩ := o1
    obtain ⟨_, rfl⟩ := o2
    exact fun p => .inl ⟨_, _, rfl, rfl, PostG.z hz rz_int p⟩
  · cases e : lz o with
    | none => exact fun p => p.elim
    | some xs =>
      cases e' : lz p with
      | none => exact fun p => p.elim
      | some ys =>
        dsimp only
        by_cases hl : xs.length + ys.length ≤ lineMax
        · rw [if_pos hl]
          obtain ⟨a, vs, rfl, h1, h2⟩ := o1.lz e
          obtain ⟨b, ws, rfl, h3, h4⟩ := o2.lz e'
          exact fun p => .inr ⟨a, b, vs, ws, rfl, rfl, h1, h3, by rw [h2.length, h4.length, ← line_eq]; exact hl, fun q hq => PostG.lst hz (h2.app h4) p hq⟩
        · rw [if_neg hl]
          exact fun p => p.elim
theorem op_addU : OpR X (binaryOp .Add) (fun x y H Q => rI0 (fun i j => .int (i + j)) x y H Q ∨ rCat x y H Q) := op_add.or op_cat
end

section
variable {X : Cx} {W : WX} {own : Prop} {e a b c : Expr} {f fa fb fc : EV} {pos : Pos} {K : PySem.W.Frag} {r r' : R2} {g g' : O → O → Res O} {H : Hp} {Z : Zs}
def rMul : R2 := fun x y H Q => rI CMul (fun i j => .int (i * j)) x y H Q ∨ rRep x y H Q
theorem op_mulU : OpR X (binaryOp .Mult) rMul := op_mul.or op_rep
theorem RZs.rep {ds : List PyData} {vs : List V} (h : RZs H Z K ds vs) : ∀ n : Nat, RZs H Z K (List.replicate n ds).flatten (List.replicate n vs).flatten
  | 0 => rfl
  | n + 1 => by
    rw [List.replicate_succ, List.replicate_succ, List.flatten_cons, List.flatten_cons]
    exact h.app (RZs.rep h n)
theorem gr_mul : GR2 K rMul gMul := fun {H Z x y o p f1 f2} hz o1 o2 Q => by
  unfold gMul
  split
  · rename_i i j
    obtain ⟨_, rfl⟩ := o1
    obtain ⟨_, rfl⟩ := o2
    by_cases hc : (-(2 ^ 64) < i ∧ i < 2 ^ 64) ∨ (-(2 ^ 64) < j ∧ j < 2 ^ 64)
    · rw [if_pos hc]
      exact fun p => .inl ⟨_, _, rfl, rfl, hc, PostG.z hz rz_int p⟩
    · rw [if_neg hc]
      exact fun p => p.elim
  · rename_i k _
    obtain ⟨_, rfl⟩ := o2
    cases e : lz o with
    | none => exact fun p => p.elim
    | some xs =>
      dsimp only
      by_cases hl : -(2 ^ 63) ≤ k ∧ k < 2 ^ 63 ∧ xs.length * k.toNat ≤ lineMax
      · rw [if_pos hl]
        obtain ⟨a, vs, rfl, h1, h2⟩ := o1.lz e
        exact fun p => .inr ⟨a, k, vs, rfl, rfl, h1, hl.1, hl.2.1, by rw [h2.length, ← line_eq]; exact hl.2.2, fun q hq => PostG.lst hz (h2.rep k.toNat) p hq⟩
      · rw [if_neg hl]
        exact fun p => p.elim
  · exact fun p => p.elim
/-! ### == and != -/
mutual
theorem eqD_eq : ∀ a b : PyData, eqD a b = PyData.eqv a b
  | .list xs, .list ys => by rw [eqD, PyData.eqv, eqDs_eq xs ys]
  | .tuple xs, .tuple ys => by rw [eqD, PyData.eqv, eqDs_eq xs ys]
  | .none, b => by cases b <;> simp [eqD, PyData.eqv]
  | .bool _, b => by cases b <;> simp [eqD, PyData.eqv]
  | .int _, b => by cases b <;> simp [eqD, PyData.eqv]
  | .str _, b => by cases b <;> simp [eqD, PyData.eqv]
  | .dict _, b => by cases b <;> simp [eqD, PyData.eqv]
  | .list _, .none => by simp [eqD, PyData.eqv]
  | .list _, .bool _ => by simp [eqD, PyData.eqv]
  | .list _, .int _ => by simp [eqD, PyData.eqv]
  | .list _, .str _ => by simp [eqD, PyData.eqv]
  | .list _, .tuple _ => by simp [eqD, PyData.eqv]
  | .list _, .dict _ => by simp [eqD, PyData.eqv]
  | .tuple _, .none => by simp [eqD, PyData.eqv]
  | .tuple _, .bool _ => by simp [eqD, PyData.eqv]
  | .tuple _, .int _ => by simp [eqD, PyData.eqv]
  | .tuple _, .str _ => by simp [eqD, PyData.eqv]
  | .tuple _, .list _ => by simp [eqD, PyData.eqv]
  | .tuple _, .dict _ => by simp [eqD, PyData.eqv]
theorem eqDs_eq : ∀ a b : List PyData, eqDs a b = PyData.eqvAll a b
  | [], [] => by rw [eqDs, PyData.eqvAll]
  | x :: xs, y :: ys => by rw [eqDs, PyData.eqvAll, eqD_eq x y, eqDs_eq xs ys]
  | [], _ :: _ => by rw [PyData.eqvAll, eqDs]; all_goals simp
  | _ :: _, [] => by rw [PyData.eqvAll, eqDs]; all_goals simp
end
end

mutual
theorem fine_lay : ∀ (n : Nat) (d : PyData), fine n d = true → d.canLay0 = true ∧ d.depth ≤ n
  | n, .none, h => ⟨by simp [PyData.canLay0], by simp [PyData.depth]⟩
  | n, .bool _, h => ⟨by simp [PyData.canLay0], by simp [PyData.depth]⟩
  | n, .int _, h => ⟨by simp [PyData.canLay0], by simp [PyData.depth]⟩
  | n, .str x, h => ⟨by
    have h : strFine x = true := by cases n <;> exact h
    rw [PyData.canLay0]
    exact h, by simp [PyData.depth]⟩
  | n + 1, .list xs, h => by
    obtain ⟨h1, h2⟩ := fines_lay n xs (by rw [fine] at h; exact h)
    exact ⟨by rw [PyData.canLay0]; exact h1, by rw [PyData.depth]; omega⟩
  | n + 1, .tuple xs, h => by
    obtain ⟨h1, h2⟩ := fines_lay n xs (by rw [fine] at h; exact h)
    exact ⟨by rw [PyData.canLay0]; exact h1, by rw [PyData.depth]; omega⟩
  | 0, .list xs, h => by simp [fine] at h
  | 0, .tuple xs, h => by simp [fine] at h
  | n, .dict _, h => by cases n <;> simp [fine] at h
theorem fines_lay : ∀ (n : Nat) (ds : List PyData), fines n ds = true → PyData.canLayAll0 ds = true ∧ PyData.depthAll ds ≤ n
  | n, [], h => ⟨by simp [PyData.canLayAll0], by simp [PyData.depthAll]⟩
  | n, x :: xs, h => by
    rw [fines, Bool.and_eq_true] at h
    obtain ⟨h1, h2⟩ := fine_lay n x h.1
    obtain ⟨h3, h4⟩ := fines_lay n xs h.2
    exact ⟨by rw [PyData.canLayAll0, h1, h3]; rfl, by rw [PyData.depthAll]; omega⟩
end
theorem fine_shaped {d : PyData} (h : fine 60 d = true) : SeqAt.shaped d = true := by
  obtain ⟨h1, h2⟩ := fine_lay 60 d h
  show (d.canLay0 && decide (d.depth ≤ 64)) = true
  rw [h1, Bool.true_and]
  exact decide_eq_true (by omega)
theorem fine_nS {o : O} (h : fine 60 (strip o) = true) : nS o = true ∨ ∃ ns, o = .s ns := by
  cases o with
  | s ns => exact .inr ⟨ns, rfl⟩
  | _ => exact .inl rfl
section
variable {X : Cx} {W : WX} {own : Prop} {e a b c : Expr} {f fa fb fc : EV} {pos : Pos} {K : PySem.W.Frag} {r r' : R2} {g g' : O → O → Res O} {H : Hp} {Z : Zs}
theorem ints_dp : ∀ ns : List Int, DpAll K H (ns.map V.int) (ns.map .int)
  | [] => .nil
  | n :: ns => .cons (.int n) (ints_dp ns)
theorem Own.dpS {o : O} {v : V} {fp : List Addr} (h : Own H Z K o v fp) : Dp K H v (strip o) := by
  cases o with
  | s ns =>
    obtain ⟨_, a, rfl, q⟩ := h
    rw [strip]
    exact .lst q.sql (ints_dp ns)
  | z d => exact Own.dp _ v fp rfl h
  | l _ => exact Own.dp _ v fp rfl h
  | t _ => exact Own.dp _ v fp rfl h
  | dk _ => exact Own.dp _ v fp rfl h
  | dt _ => exact Own.dp _ v fp rfl h
theorem gr_eq : GR2 K (rEqD K) gEq := fun {H Z x y o p f1 f2} hz o1 o2 Q => by
  unfold gEq
  by_cases h : fine 60 (strip o) = true ∧ fine 60 (strip p) = true
  · rw [if_pos h]
    exact fun q => ⟨_, _, o1.dpS, o2.dpS, fine_shaped h.1, fine_shaped h.2, by rw [← eqD_eq]; exact PostG.z hz rz_bl q⟩
  · rw [if_neg h]
    exact fun q => q.elim
theorem gr_ne : GR2 K (rNeD K) gNe := fun {H Z x y o p f1 f2} hz o1 o2 Q => by
  unfold gNe
  by_cases h : fine 60 (strip o) = true ∧ fine 60 (strip p) = true
  · rw [if_pos h]
    exact fun q => ⟨_, _, o1.dpS, o2.dpS, fine_shaped h.1, fine_shaped h.2, by rw [← eqD_eq]; exact PostG.z hz rz_bl q⟩
  · rw [if_neg h]
    exact fun q => q.elim
end

section
variable {X : Cx} {W : WX} {own : Prop} {e a b c : Expr} {f fa fb fc : EV} {pos : Pos} {K : PySem.W.Frag} {r r' : R2} {g g' : O → O → Res O} {H : Hp} {Z : Zs}
theorem own_non {o : O} {v : V} {fp : List Addr} (h : Own H Z K o v fp) : decide (v = .non) = isNone o := by
  cases o with
  | z d =>
    obtain ⟨_, h⟩ := h
    cases d with
    | none => rw [show v = .non from h]; rfl
    | bool _ => rw [show v = .bl _ from h]; rfl
    | int _ => rw [show v = .int _ from h]; rfl
    | str _ => rw [show v = .str _ from h]; rfl
    | list _ => obtain ⟨a, vs, rfl, _⟩ := h; rfl
    | tuple _ => obtain ⟨a, vs, rfl, _⟩ := h; rfl
    | dict _ => exact h.elim
  | l _ => obtain ⟨a, vs, g, rfl, _⟩ := h; rfl
  | t _ => obtain ⟨a, vs, rfl, _⟩ := h; rfl
  | dk _ => exact h.elim
  | dt _ => exact h.elim
  | s _ => obtain ⟨_, a, rfl, _⟩ := h; rfl
theorem gr_is : GR2 K (fun x y H Q => y = .non ∧ Q (.bl (decide (x = .non))) H) gIs := fun {H Z x y o p f1 f2} hz o1 o2 Q => by
  unfold gIs
  split
  · obtain ⟨_, e⟩ := o2
    exact fun p => ⟨e, by rw [own_non o1]; exact PostG.z hz rz_bl p⟩
  · exact fun p => p.elim
theorem gr_isnt : GR2 K (fun x y H Q => y = .non ∧ Q (.bl (!decide (x = .non))) H) gIsnt := fun {H Z x y o p f1 f2} hz o1 o2 Q => by
  unfold gIsnt
  split
  · obtain ⟨_, e⟩ := o2
    exact fun p => ⟨e, by rw [own_non o1]; exact PostG.z hz rz_bl p⟩
  · exact fun p => p.elim
/-! ### order -/
theorem intsOf_eq : ∀ {ds : List PyData} {ns : List Int}, intsOf ds = some ns → ds = ns.map .int
  | [], ns, h => by cases h; rfl
  | .int i :: r, ns, h => by
    rw [intsOf] at h
    cases e : intsOf r with
    | none => rw [e] at h; cases h
    | some ms =>
      rw [e] at h
      cases h
      rw [intsOf_eq e]; rfl
  | .none :: _, _, h => by cases h
  | .bool _ :: _, _, h => by cases h
  | .str _ :: _, _, h => by cases h
  | .list _ :: _, _, h => by cases h
  | .tuple _ :: _, _, h => by cases h
  | .dict _ :: _, _, h => by cases h
theorem rzs_ints : ∀ {ns : List Int} {vs : List V}, RZs H Z K (ns.map .int) vs → vs = ns.map V.int
  | [], vs, h => h
  | n :: ns, vs, h => by
    obtain ⟨v, r, rfl, h1, h2⟩ := h
    rw [show v = .int n from h1, rzs_ints h2]; rfl
theorem Own.tI {o : O} {v : V} {fp : List Addr} {ns : List Int} (h : Own H Z K o v fp) (e : tI o = some ns) : ∃ a, v = .ref a ∧ SqT K H a (ns.map V.int) := by
  unfold U.tI at e
  cases q : U.tz o with
  | none => rw [q] at e; cases e
  | some ds =>
    rw [q] at e
    obtain ⟨a, vs, rfl, h1, h2⟩ := h.tz q
    rw [intsOf_eq e] at h2
    rw [rzs_ints h2] at h1
    exact ⟨a, rfl, h1⟩
theorem ltI_eq : ∀ a b : List Int, ltI a b = HT.lexLt a b
  | [], [] => rfl
  | [], _ :: _ => rfl
  | _ :: _, [] => rfl
  | x :: xs, y :: ys => by rw [ltI, HT.lexLt_cons, ltI_eq xs ys]
theorem lexAt_shift (e r : Nat → Bool) (z : Bool) : ∀ (k i : Nat), Ob.lexAt e r z (i + 1) k = Ob.lexAt (fun j => e (j + 1)) (fun j => r (j + 1)) z i k
  | 0, i => rfl
  | k + 1, i => by rw [Ob.lexAt_succ, Ob.lexAt_succ, lexAt_shift e r z k (i + 1)]
theorem leI_eq : ∀ ns ms : List Int, leI ns ms = Ob.lexAt (fun j => decide (ns.getD j 0 = ms.getD j 0)) (fun j => decide (ns.getD j 0 ≤ ms.getD j 0)) (decide (ns.length ≤ ms.length)) 0 (min ns.length ms.length)
  | [], ms => by simp [leI, Ob.lexAt_zero]
  | _ :: _, [] => by simp [leI, Ob.lexAt_zero]
  | x :: xs, y :: ys => by
    rw [leI, List.length_cons, List.length_cons, show min (xs.length + 1) (ys.length + 1) = min xs.length ys.length + 1 by omega, Ob.lexAt_succ, lexAt_shift]
    have e := leI_eq xs ys
    by_cases h : x = y
    · rw [if_pos h, if_pos (by simp [h]), e]
      simp
    · rw [if_neg h, if_neg (by simp [h])]
      simp
def rOrd (K : PySem.W.Frag) (p : Int → Int → Bool) (q : List Int → List Int → Bool) : R2 := fun x y H Q => rI0 (fun i j => .bl (p i j)) x y H Q ∨ ∃ a b ns ms, x = .ref a ∧ y = .ref b ∧ SqT K H a (ns.map V.int) ∧ SqT K H b (ms.map V.int) ∧ Q (.bl (q ns ms)) H
theorem op_ltU (hu : X.A.units < cLine) : OpR X (compareOp .Lt) (rOrd X.K (fun i j => decide (i < j)) ltI) := op_lt.or (by
  intro pins s σ H x y v u Q I rx ry ⟨a, b, ns, ms, h1, h2, h3, h4, q⟩
  exact op_ltT hu pins s σ H x y v u Q I rx ry ⟨a, b, ns, ms, h1, h2, h3, h4, by rw [← ltI_eq]; exact q⟩)
theorem op_leU (hu : X.A.units < cLine) : OpR X (compareOp .LtE) (rOrd X.K (fun i j => decide (i ≤ j)) leI) := op_le.or (by
  intro pins s σ H x y v u Q I rx ry ⟨a, b, ns, ms, h1, h2, h3, h4, q⟩
  exact op_leT hu pins s σ H x y v u Q I rx ry ⟨a, b, ns, ms, h1, h2, h3, h4, by rw [← leI_eq]; exact q⟩)
theorem gr_ord {p : Int → Int → Bool} {q : List Int → List Int → Bool} : GR2 K (rOrd K p q) (gOrd p q) := fun {H Z x y o p' f1 f2} hz o1 o2 Q => by
  unfold gOrd
  split
  · obtain ⟨_, rfl⟩ := o1
    obtain ⟨_, rfl⟩ := o2
    exact fun p => .inl ⟨_, _, rfl, rfl, PostG.z hz rz_bl p⟩
  · cases e : U.tI o with
    | none => exact fun p => p.elim
    | some xs =>
      cases e' : U.tI p' with
      | none => exact fun p => p.elim
      | some ys =>
        obtain ⟨a, rfl, h1⟩ := o1.tI e
        obtain ⟨b, rfl, h2⟩ := o2.tI e'
        exact fun p => .inr ⟨a, b, xs, ys, rfl, rfl, h1, h2, PostG.z hz rz_bl p⟩
theorem gr_IB {k : Int → Int → Bool} : GR2 K (rI0 fun i j => .bl (k i j)) (gI fun i j => .ok (.bool (k i j))) := fun {H Z x y o p f1 f2} hz o1 o2 Q => by
  unfold gI
  split
  · obtain ⟨_, rfl⟩ := o1
    obtain ⟨_, rfl⟩ := o2
    exact fun p => ⟨_, _, rfl, rfl, PostG.z hz rz_bl p⟩
  · exact fun p => p.elim
end

section
variable {X : Cx} {W : WX} {own : Prop} {e a b c : Expr} {f fa fb fc : EV} {pos : Pos} {K : PySem.W.Frag} {r r' : R2} {g g' : O → O → Res O} {H : Hp} {Z : Zs} {ta tb : EB}
/-! ### in -/
theorem xf (b : Bool) : (b != false) = b := by cases b <;> rfl
theorem xt (b : Bool) : (b != true) = !b := by cases b <;> rfl
theorem Own.lzS {o : O} {v : V} {fp : List Addr} {ds : List PyData} (h : Own H Z K o v fp) (e : U.lz o = some ds) : Dp K H v (.list ds) := by
  obtain ⟨a, vs, rfl, h1, h2⟩ := h.lz e
  exact .lst (SqL.of h1) (RZs.dp ds vs h2)
theorem flat_rz : ∀ {d : PyData} {v : V}, flat d = true → RZ H Z K d v → flatV v = true
  | .none, v, _, h => by rw [show v = .non from h]; rfl
  | .bool _, v, _, h => by rw [show v = .bl _ from h]; rfl
  | .int _, v, _, h => by rw [show v = .int _ from h]; rfl
  | .str _, v, _, h => by rw [show v = .str _ from h]; rfl
  | .list _, _, e, _ => by cases e
  | .tuple _, _, e, _ => by cases e
  | .dict _, _, e, _ => by cases e
theorem flat_rzs : ∀ {ds : List PyData} {vs : List V}, ds.all flat = true → RZs H Z K ds vs → vs.all flatV = true
  | [], vs, _, h => by rw [show vs = [] from h]; rfl
  | d :: ds, vs, e, h => by
    obtain ⟨v, r, rfl, h1, h2⟩ := h
    rw [List.all_cons, Bool.and_eq_true] at e
    rw [List.all_cons, flat_rz e.1 h1, flat_rzs e.2 h2]; rfl
theorem eqV_eq : ∀ {d e : PyData} {v w : V}, flat d = true → flat e = true → RZ H Z K d v → RZ H Z K e w → eqV v w = eqD d e := by
  intro d e v w hd he h1 h2
  cases d <;> cases e <;> first
    | (cases hd; done)
    | (cases he; done)
    | (rw [show v = _ from h1, show w = _ from h2]; simp [eqV, eqD])
theorem inV_eq {d : PyData} {v : V} (hd : flat d = true) (h : RZ H Z K d v) : ∀ {ds : List PyData} {vs : List V}, ds.all flat = true → RZs H Z K ds vs → inV v vs = inD d ds
  | [], vs, _, hv => by rw [show vs = [] from hv]; rfl
  | d' :: ds, vs, e, hv => by
    obtain ⟨v', r, rfl, h1, h2⟩ := hv
    rw [List.all_cons, Bool.and_eq_true] at e
    have ih := inV_eq hd h e.2 h2
    unfold inV at ih ⊢
    unfold inD at ih ⊢
    rw [List.any_cons, List.any_cons, ih, eqV_eq e.1 hd h1 h]
theorem own_flat {o : O} {v : V} {fp : List Addr} (h : Own H Z K o v fp) (e : flat (strip o) = true) : RZ H Z K (strip o) v := by
  cases o with
  | z d => rw [strip_z]; exact h.2
  | l _ => rw [strip_l] at e; cases e
  | t _ => rw [strip_t] at e; cases e
  | dk _ => exact h.elim
  | dt _ => exact h.elim
  | s _ => rw [strip] at e; cases e
def rMem (K : PySem.W.Frag) (neg : Bool) : R2 := fun x y H Q => (∃ d ds, Dp K H x d ∧ Dp K H y (.list ds) ∧ SeqAt.shaped d = true ∧ SeqAt.shaped (.list ds) = true ∧ Q (.bl ((ds.any fun z => PyData.eqv z d) != neg)) H) ∨ rIn K neg x y H Q
theorem op_memU (hu : X.A.units + 65 < cLine) : OpR X (compareOp .In) (rMem X.K false) := by
  intro pins s σ H x y v u Q I rx ry h
  rcases h with ⟨d, ds, h1, h2, h3, h4, q⟩ | h
  · exact op_inD hu pins s σ H x y v u Q I rx ry ⟨d, ds, h1, h2, h3, h4, by rw [xf] at q; exact q⟩
  · exact op_in_seq pins s σ H x y v u Q I rx ry h
theorem op_nmemU (hu : X.A.units + 65 < cLine) : OpR X (compareOp .NotIn) (rMem X.K true) := by
  intro pins s σ H x y v u Q I rx ry h
  rcases h with ⟨d, ds, h1, h2, h3, h4, q⟩ | h
  · exact op_notInD hu pins s σ H x y v u Q I rx ry ⟨d, ds, h1, h2, h3, h4, by rw [xt] at q; exact q⟩
  · exact op_notIn_seq pins s σ H x y v u Q I rx ry h
theorem gr_mem {neg : Bool} : GR2 K (rMem K neg) (gMem neg) := fun {H Z x y o p f1 f2} hz o1 o2 Q => by
  unfold gMem
  cases e : lz p with
  | some ds =>
    dsimp only
    by_cases h : fine 60 (strip o) = true ∧ fine 60 (.list ds) = true
    · rw [if_pos h]
      refine fun q => .inl ⟨_, ds, o1.dpS, o2.lzS e, fine_shaped h.1, fine_shaped h.2, ?_⟩
      have e2 : (ds.any fun z => PyData.eqv z (strip o)) = inD (strip o) ds := by
        unfold inD
        congr 1
        funext z
        rw [eqD_eq]
      rw [e2]
      exact PostG.z hz rz_bl q
    · rw [if_neg h]
      exact fun q => q.elim
  | none =>
    dsimp only
    cases e' : tz p with
    | none => exact fun q => q.elim
    | some ds =>
      dsimp only
      by_cases h : flat (strip o) = true ∧ ds.all flat = true
      · rw [if_pos h]
        obtain ⟨t, vs, rfl, h1, h2⟩ := o2.tz e'
        have hx := own_flat o1 h.1
        refine fun q => .inr ⟨t, vs, rfl, .inr h1, flat_rz h.1 hx, flat_rzs h.2 h2, ?_⟩
        rw [inV_eq h.1 hx h.2 h2]
        cases neg with
        | false => rw [xf] at q; exact PostG.z hz rz_bl q
        | true => rw [xt] at q; exact PostG.z hz rz_bl q
      · rw [if_neg h]
        exact fun q => q.elim
/-! ### one-place operations -/
theorem pu_1 {r : V → Hp → VK → Prop} {g : O → Res O} {t : TE → TE} (ht : ∀ ta, PE X a ta → PE X e (t ta)) (hq : ∀ ta σ H Q, t ta σ H Q = tUn r ta σ H Q) (G : GR1 X.K r g) (ha : PuB X W a fa) : PuE X W e (e1 g fa) := by
  obtain ⟨ta, pa, qa⟩ := ha.ex
  refine ⟨t ta, ht _ pa, fun {H0 Z0 H Z σ ρ} S Q p => ?_⟩
  rw [hq]
  refine qa S _ ?_
  revert p
  unfold e1 PostE
  cases fa ρ with
  | bad => exact fun p => p
  | err cn d => exact fun p => p
  | ok o =>
    intro p v1 H1 Z1 g1 e1 o1 _
    refine G e1.zd o1 Q ?_
    revert p
    show PostE X W True σ H Z (g o).nox Q → PostG H1 Z1 X.K (g o) Q
    cases g o with
    | ok q => exact fun p v3 H3 Z3 g3 e3 o3 n3 => p v3 H3 Z3 g3 (e1.trans e3) o3 fun _ => n3.grow e1
    | err _ _ => exact fun p => p
    | bad => exact fun p => p
theorem gr_neg : GR1 K (rU fun i => .int (-i)) gNeg := fun {H Z x o f1} hz o1 Q => by
  unfold gNeg
  split
  · obtain ⟨_, rfl⟩ := o1
    exact fun p => ⟨_, rfl, PostG.z hz rz_int p⟩
  · exact fun p => p.elim
theorem pu_neg (ha : PuB X W a fa) : PuE X W (.UnaryOp .USub a pos) (e1 gNeg fa) := pu_1 (t := tUn (rU fun i => .int (-i))) (fun _ => pe_un un_neg) (fun _ _ _ _ => rfl) gr_neg ha
/-! ### chains -/
theorem sat_ch {ta tb tc : TE} (qa : Sat X W False ta fa) (qb : Sat X W False tb fb) (qc : Sat X W False tc fc) (G : GR2 X.K r g) (G' : GR2 X.K r' g') : Sat X W True (tChain r r' ta tb tc) (eCh g g' fa fb fc) := by
  intro H0 Z0 H Z σ ρ S Q p
  unfold tChain
  refine qa S _ ?_
  revert p
  unfold eCh PostE
  cases fa ρ with
  | bad => exact fun p => p
  | err cn d => exact fun p => p
  | ok o =>
    intro p v1 H1 Z1 g1 e1 o1 _
    refine qb (S.grow e1) _ ?_
    revert p
    rw [Res.bind_ok]
    unfold PostE
    cases fb ρ with
    | bad => exact fun p => p
    | err cn d => exact fun p => ErrP.grow p e1
    | ok o' =>
      intro p v2 H2 Z2 g2 e2 o2 _
      refine G e2.zd (o1.ext e2) o2 _ ?_
      revert p
      rw [Res.bind_ok]
      cases g o o' with
      | bad => exact fun p => p
      | err _ _ => exact fun p => p
      | ok q =>
        intro p v3 H3 Z3 g3 e3 o3 n3
        revert p
        rw [Res.nox_ok, Res.bind_ok]
        cases q with
        | z d =>
          cases d with
          | bool k =>
            obtain ⟨_, rfl⟩ := o3
            cases k with
            | true =>
              refine fun p => ⟨true, rfl, ?_⟩
              rw [if_pos rfl]
              refine qc (((S.grow e1).grow e2).grow e3) _ ?_
              revert p
              unfold PostE
              cases fc ρ with
              | bad => exact fun p => p
              | err cn d => exact fun p => ErrP.grow p ((e1.trans e2).trans e3)
              | ok o4 =>
                intro p v4 H4 Z4 g4 e4 o4' _
                refine G' e4.zd (o2.ext (e3.trans e4)) o4' Q ?_
                revert p
                rw [Res.bind_ok]
                cases g' o' o4 with
                | ok q5 => exact fun p v5 H5 Z5 g5 e5 o5 n5 => p v5 H5 Z5 g5 ((((e1.trans e2).trans e3).trans e4).trans e5) o5 fun _ => n5.grow (((e1.trans e2).trans e3).trans e4)
                | err _ _ => exact fun p => p
                | bad => exact fun p => p
            | false =>
              refine fun p => ⟨false, rfl, ?_⟩
              rw [if_neg Bool.false_ne_true]
              exact p (.bl false) H3 Z3 [] ((e1.trans e2).trans e3) ⟨rfl, rfl⟩ fun _ => New.nil
          | _ => exact fun p => p.elim
        | _ => exact fun p => p.elim
theorem pu_ch {op op' : CmpOp} (ho : OpR X (compareOp op) r) (ho' : OpR X (compareOp op') r') (G : GR2 X.K r g) (G' : GR2 X.K r' g') (hm : lastMarks [op, op'] [b, c] = false) (ha : PuB X W a fa) (hb : PuB X W b fb) (hc : PuB X W c fc) :
    PuE X W (.Compare a [op, op'] [b, c] pos) (eCh g g' fa fb fc) := by
  obtain ⟨ta, pa, qa⟩ := ha.ex
  obtain ⟨tb, pb, qb⟩ := hb.ex
  obtain ⟨tc, pc, qc⟩ := hc.ex
  exact ⟨_, pe_chain ho ho' pa pb pc hm, sat_ch qa qb qc G G'⟩
theorem pt_ch {op op' : CmpOp} (ho : OpR X (compareOp op) r) (ho' : OpR X (compareOp op') r') (G : GR2 X.K r g) (G' : GR2 X.K r' g') (hm : lastMarks [op, op'] [b, c] = false) (ha : PuB X W a fa) (hb : PuB X W b fb) (hc : PuB X W c fc) :
    PuT X W (.Compare a [op, op'] [b, c] pos) (U.tB (eCh g g' fa fb fc)) := by
  obtain ⟨ta, pa, qa⟩ := ha.ex
  obtain ⟨tb, pb, qb⟩ := hb.ex
  obtain ⟨tc, pc, qc⟩ := hc.ex
  exact ⟨_, pt_chain ho ho' pa pb pc hm, sat_t (sat_ch qa qb qc G G')⟩
/-! ### truth -/
theorem own_true {o : O} {v : V} {fp : List Addr} {k : Bool} (h : Own H Z K o v fp) (e : truth o = .ok k) : TruV K v H k := by
  cases o with
  | z d =>
    obtain ⟨_, h⟩ := h
    cases d with
    | none => rw [show v = .non from h]; cases e; rfl
    | bool b => rw [show v = .bl b from h]; cases e; rfl
    | int i => rw [show v = .int i from h]; cases e; rfl
    | str _ => cases e
    | list ds =>
      obtain ⟨a, vs, rfl, _, h1, h2⟩ := h
      cases e
      refine .inl ⟨vs, SqL.of h1, ?_⟩
      cases ds with
      | nil => rw [show vs = [] from h2]; rfl
      | cons d ds => obtain ⟨_, _, rfl, _⟩ := h2; rfl
    | tuple ds =>
      obtain ⟨a, vs, rfl, h1, h2⟩ := h
      cases e
      refine .inr (.inl ⟨vs, h1, ?_⟩)
      cases ds with
      | nil => rw [show vs = [] from h2]; rfl
      | cons d ds => obtain ⟨_, _, rfl, _⟩ := h2; rfl
    | dict _ => exact h.elim
  | l os =>
    obtain ⟨a, vs, g, rfl, rfl, h1, h2⟩ := h
    cases e
    refine .inl ⟨vs, SqL.of h1, ?_⟩
    cases os with
    | nil => rw [h2.1]; rfl
    | cons o os => obtain ⟨_, _, _, _, rfl, _⟩ := h2; rfl
  | t os =>
    obtain ⟨a, vs, rfl, h1, h2⟩ := h
    cases e
    refine .inr (.inl ⟨vs, h1, ?_⟩)
    cases os with
    | nil => rw [h2.1]; rfl
    | cons o os => obtain ⟨_, _, _, _, rfl, _⟩ := h2; rfl
  | dk _ => cases e
  | dt _ => cases e
  | s _ => cases e
theorem truth_noerr {o : O} {cn : Str} {d : PyData} : truth o ≠ .err cn d := by
  intro h
  cases o with
  | z d => cases d <;> cases h
  | _ => cases h
theorem pt_v (he : ∀ whole, isTrue a X.env whole = (do let v ← whole; standAt a.pos; holding [v] (truthy v))) (ha : PX X W own a fa) : PuT X W a (tV fa) := by
  obtain ⟨t, pa, qa⟩ := ha.ex
  refine ⟨_, pt_truth pa he, ?_⟩
  intro H0 Z0 H Z σ ρ S Q p
  refine qa S _ ?_
  revert p
  unfold tV PostE PostT
  cases fa ρ with
  | bad => exact fun p => p
  | err cn d => exact fun p => p
  | ok o =>
    rw [Res.bind_ok]
    cases e : truth o with
    | bad => exact fun p => p.elim
    | err _ _ => exact absurd e truth_noerr
    | ok k => exact fun p v H' Z' g e1 o1 _ => ⟨k, own_true o1 e, p H' Z' e1⟩
section
variable {rest : List Expr} {tb' : EB}
theorem pw_and1' (ha : PuT X W a ta) : ∃ t, PW X (.BoolOp .And [a] pos) t ∧ SatT X W t ta := by
  obtain ⟨t, p, q⟩ := ha.ex
  exact ⟨t, pw_and1 p, q⟩
theorem pw_or1' (ha : PuT X W a ta) : ∃ t, PW X (.BoolOp .Or [a] pos) t ∧ SatT X W t ta := by
  obtain ⟨t, p, q⟩ := ha.ex
  exact ⟨t, pw_or1 p, q⟩
theorem pw_and' (ha : PuT X W a ta) (hb : ∃ t, PW X (.BoolOp .And (b :: rest) pos) t ∧ SatT X W t tb') : ∃ t, PW X (.BoolOp .And (a :: b :: rest) pos) t ∧ SatT X W t (U.tAnd ta tb') := by
  obtain ⟨t, p, q⟩ := ha.ex
  obtain ⟨u, p', q'⟩ := hb
  refine ⟨_, pw_and p p', ?_⟩
  intro H0 Z0 H Z σ ρ S Q h
  unfold L2.tAnd
  refine q S _ ?_
  revert h
  unfold U.tAnd PostT
  cases ta ρ with
  | bad => exact fun p => p
  | err cn d => exact fun p => p
  | ok k =>
    cases k with
    | true =>
      intro h H' Z' e
      rw [if_pos rfl]
      refine q' (S.grow e) Q ?_
      revert h
      rw [Res.bind_ok, if_pos rfl]
      unfold PostT
      cases tb' ρ with
      | bad => exact fun p => p
      | err cn d => exact fun p => ErrP.grow p e
      | ok k => exact fun p H2 Z2 e2 => p H2 Z2 (e.trans e2)
    | false =>
      intro h H' Z' e
      rw [if_neg Bool.false_ne_true]
      exact h H' Z' e
theorem pw_or' (ha : PuT X W a ta) (hb : ∃ t, PW X (.BoolOp .Or (b :: rest) pos) t ∧ SatT X W t tb') : ∃ t, PW X (.BoolOp .Or (a :: b :: rest) pos) t ∧ SatT X W t (U.tOr ta tb') := by
  obtain ⟨t, p, q⟩ := ha.ex
  obtain ⟨u, p', q'⟩ := hb
  refine ⟨_, pw_or p p', ?_⟩
  intro H0 Z0 H Z σ ρ S Q h
  unfold L2.tOr
  refine q S _ ?_
  revert h
  unfold U.tOr PostT
  cases ta ρ with
  | bad => exact fun p => p
  | err cn d => exact fun p => p
  | ok k =>
    cases k with
    | false =>
      intro h H' Z' e
      rw [if_neg Bool.false_ne_true]
      refine q' (S.grow e) Q ?_
      revert h
      rw [Res.bind_ok, if_neg Bool.false_ne_true]
      unfold PostT
      cases tb' ρ with
      | bad => exact fun p => p
      | err cn d => exact fun p => ErrP.grow p e
      | ok k => exact fun p H2 Z2 e2 => p H2 Z2 (e.trans e2)
    | true =>
      intro h H' Z' e
      rw [if_pos rfl]
      exact h H' Z' e
theorem pt_w (h : ∃ t, PW X e t ∧ SatT X W t ta) : PuT X W e ta := by
  obtain ⟨t, p, q⟩ := h
  exact ⟨t, p.pt, q⟩
theorem pt_not' (ha : PuT X W a ta) : PuT X W (.UnaryOp .Not a pos) (U.tNot ta) := by
  obtain ⟨t, p, q⟩ := ha.ex
  refine ⟨_, pt_not p, ?_⟩
  intro H0 Z0 H Z σ ρ S Q h
  unfold L2.tNot
  refine q S _ ?_
  revert h
  unfold U.tNot PostT
  cases ta ρ with
  | bad => exact fun p => p
  | err cn d => exact fun p => p
  | ok k => exact fun h H' Z' e => h H' Z' e
end
end

/-! ### values by truth -/
section
variable {X : Cx} {W : WX} {own : Prop} {e a b c : Expr} {f fa fb fc : EV} {pos : Pos} {K : PySem.W.Frag} {r r' : R2} {g g' : O → O → Res O} {H : Hp} {Z : Zs} {ta tb : EB} {rest : List Expr}
theorem PostE.grow {H H' : Hp} {Z Z' : Zs} {σ : St} {r : Res O} {Q : VK} (p : PostE X W own σ H Z r Q) (e : Ext H Z H' Z') : PostE X W own σ H' Z' r Q := by
  revert p
  unfold PostE
  cases r with
  | bad => exact id
  | err cn d => exact fun p => ErrP.grow p e
  | ok o => exact fun p v H2 Z2 g e2 o2 n2 => p v H2 Z2 g (e.trans e2) o2 fun h => (n2 h).grow e
theorem pu_one {op : BoolOp} (ha : PX X W own a fa) : PX X W own (.BoolOp op [a] pos) fa := by
  obtain ⟨t, p, q⟩ := ha.ex
  exact ⟨t, pe_one p, q⟩
theorem pu_and (ha : PX X W own a fa) (hb : PX X W own (.BoolOp .And (b :: rest) pos) fb) : PX X W own (.BoolOp .And (a :: b :: rest) pos) (eAnd fa fb) := by
  obtain ⟨t, p, q⟩ := ha.ex
  obtain ⟨u, p', q'⟩ := hb.ex
  refine ⟨_, pe_andT p p', ?_⟩
  intro H0 Z0 H Z σ ρ S Q h
  unfold tAndT
  refine q S _ ?_
  revert h
  unfold eAnd PostE
  cases fa ρ with
  | bad => exact id
  | err cn d => exact id
  | ok o =>
    rw [Res.bind_ok]
    cases et : truth o with
    | bad => exact fun h => h.elim
    | err _ _ => exact absurd et truth_noerr
    | ok k =>
      intro h v H1 Z1 g1 e1 o1 n1
      refine ⟨k, own_true o1 et, ?_⟩
      rw [Res.bind_ok] at h
      cases k with
      | true =>
        rw [if_pos rfl] at h ⊢
        exact q' (S.grow e1) Q (PostE.grow h e1)
      | false =>
        rw [if_neg Bool.false_ne_true] at h ⊢
        exact h v H1 Z1 g1 e1 o1 n1
theorem pu_or (ha : PX X W own a fa) (hb : PX X W own (.BoolOp .Or (b :: rest) pos) fb) : PX X W own (.BoolOp .Or (a :: b :: rest) pos) (eOr fa fb) := by
  obtain ⟨t, p, q⟩ := ha.ex
  obtain ⟨u, p', q'⟩ := hb.ex
  refine ⟨_, pe_orT p p', ?_⟩
  intro H0 Z0 H Z σ ρ S Q h
  unfold tOrT
  refine q S _ ?_
  revert h
  unfold eOr PostE
  cases fa ρ with
  | bad => exact id
  | err cn d => exact id
  | ok o =>
    rw [Res.bind_ok]
    cases et : truth o with
    | bad => exact fun h => h.elim
    | err _ _ => exact absurd et truth_noerr
    | ok k =>
      intro h v H1 Z1 g1 e1 o1 n1
      refine ⟨k, own_true o1 et, ?_⟩
      rw [Res.bind_ok] at h
      cases k with
      | false =>
        rw [if_neg Bool.false_ne_true] at h ⊢
        exact q' (S.grow e1) Q (PostE.grow h e1)
      | true =>
        rw [if_pos rfl] at h ⊢
        exact h v H1 Z1 g1 e1 o1 n1
theorem pu_not (ha : PX X W own a fa) : PuE X W (.UnaryOp .Not a pos) (eNot fa) := by
  obtain ⟨t, p, q⟩ := ha.ex
  refine ⟨_, pe_notT p, ?_⟩
  intro H0 Z0 H Z σ ρ S Q h
  unfold tNotT
  refine q S _ ?_
  revert h
  unfold eNot PostE
  cases fa ρ with
  | bad => exact id
  | err cn d => exact id
  | ok o =>
    rw [Res.bind_ok]
    cases et : truth o with
    | bad => exact fun h => h.elim
    | err _ _ => exact absurd et truth_noerr
    | ok k =>
      exact fun h v H1 Z1 g1 e1 o1 n1 => ⟨k, own_true o1 et, h _ H1 Z1 [] e1 ⟨rfl, rfl⟩ fun _ => New.nil⟩
theorem pu_if (hc : PuT X W c ta) (ha : PX X W own a fa) (hb : PX X W own b fb) : PX X W own (.IfExp c a b pos) (eIf ta fa fb) := by
  obtain ⟨tc, pc, qc⟩ := hc.ex
  obtain ⟨t, p, q⟩ := ha.ex
  obtain ⟨u, p', q'⟩ := hb.ex
  refine ⟨_, pe_ifExp pc p p', ?_⟩
  intro H0 Z0 H Z σ ρ S Q h
  unfold tIf
  refine qc S _ ?_
  revert h
  unfold eIf PostT
  cases ta ρ with
  | bad => exact id
  | err cn d => exact id
  | ok k =>
    intro h H1 Z1 e1
    rw [Res.bind_ok] at h
    cases k with
    | true =>
      rw [if_pos rfl] at h ⊢
      exact q (S.grow e1) Q (PostE.grow h e1)
    | false =>
      rw [if_neg Bool.false_ne_true] at h ⊢
      exact q' (S.grow e1) Q (PostE.grow h e1)
/-! ### arguments, displays -/
variable {es : List Expr} {fs : EA}
theorem OwnA.ext {H H' : Hp} {Z Z' : Zs} (e : Ext H Z H' Z') : ∀ {os : List O} {vs : List V} {fp : List Addr}, OwnA H Z K os vs fp → OwnA H' Z' K os vs fp
  | [], vs, fp, h => h
  | o :: os, vs, fp, h => by
    obtain ⟨v, r, f, g, rfl, rfl, h1, h2⟩ := h
    exact ⟨v, r, f, g, rfl, rfl, h1.ext e, OwnA.ext e h2⟩
theorem OwnA.owns : ∀ {os : List O} {vs : List V} {fp : List Addr}, os.all nS = true → OwnA H Z K os vs fp → Owns H Z K os vs fp
  | [], vs, fp, _, h => h
  | o :: os, vs, fp, n, h => by
    rw [List.all_cons, Bool.and_eq_true] at n
    obtain ⟨v, r, f, g, rfl, rfl, h1, h2⟩ := h
    exact ⟨v, r, f, g, rfl, rfl, h1, OwnA.owns n.2 h2, n.1⟩
theorem OwnA.len : ∀ {os : List O} {vs : List V} {fp : List Addr}, OwnA H Z K os vs fp → vs.length = os.length
  | [], vs, fp, h => by rw [h.1]; rfl
  | o :: os, vs, fp, h => by
    obtain ⟨v, r, f, g, rfl, rfl, h1, h2⟩ := h
    rw [List.length_cons, List.length_cons, OwnA.len h2]
theorem OwnA.ne : ∀ {os : List O} {vs : List V} {fp : List Addr}, OwnA H Z K os vs fp → ∀ a ∈ fp, H a ≠ none
  | [], vs, fp, h, a, ha => by rw [h.2] at ha; cases ha
  | o :: os, vs, fp, h, a, ha => by
    obtain ⟨v, r, f, g, rfl, rfl, h1, h2⟩ := h
    rcases List.mem_append.mp ha with ha | ha
    · exact h1.ne ha
    · exact OwnA.ne h2 a ha
theorem pa_nil' : PAX X W own [] aNil := ⟨fun ρ os h => by cases h; rfl, _, pa_nil, fun S Q p => p [] _ _ [] (Ext.refl S.ext.zd) ⟨rfl, rfl⟩ fun _ => New.nil⟩
theorem pa_cons' (ha : PX X W own e f) (hs : PAX X W own es fs) (he : starEach (e :: es) X.env = (false, eval e X.env) :: starEach es X.env) : PAX X W own (e :: es) (aCons f fs) := by
  obtain ⟨t, p, q⟩ := ha.ex
  obtain ⟨u, p', q'⟩ := hs.ex
  refine ⟨fun ρ os h => ?_, _, pa_cons p p' he, ?_⟩
  · unfold aCons at h
    cases ef : f ρ with
    | bad => rw [ef] at h; cases h
    | err _ _ => rw [ef] at h; cases h
    | ok o =>
      rw [ef, Res.bind_ok] at h
      cases eg : fs ρ with
      | bad => rw [eg] at h; cases h
      | err _ _ => rw [eg] at h; cases h
      | ok r =>
        rw [eg] at h
        cases h
        rw [List.length_cons, List.length_cons, hs.len ρ r eg]
  intro H0 Z0 H Z σ ρ S Q h
  unfold tCons
  refine q S _ ?_
  revert h
  unfold aCons PostA PostE
  cases f ρ with
  | bad => exact id
  | err cn d => exact id
  | ok o =>
    intro h v1 H1 Z1 g1 e1 o1 n1
    refine q' (S.grow e1) _ ?_
    revert h
    rw [Res.bind_ok]
    unfold PostA
    cases fs ρ with
    | bad => exact id
    | err cn d => exact fun h => ErrP.grow h e1
    | ok os =>
      intro h vs H2 Z2 g2 e2 o2 n2
      refine h (v1 :: vs) H2 Z2 (g1 ++ g2) (e1.trans e2) ⟨v1, vs, g1, g2, rfl, rfl, o1.ext e2, o2⟩ fun ho => ?_
      have m1 := (n1 ho).later (K := X.K) (fun a ha => o1.ne ha) e2
      exact m1.app (fun a ha => o1.ne ha) (n2 ho) fun a ha => e1.back ha
end

section
variable {X : Cx} {W : WX} {own : Prop} {e a b c : Expr} {f fa fb fc : EV} {pos : Pos} {K : PySem.W.Frag} {r r' : R2} {g g' : O → O → Res O} {H : Hp} {Z : Zs} {ta tb : EB} {rest es : List Expr} {fs : EA}
theorem pu_lst (ha : PuA X W es fs) : PuE X W (.List es pos) (eLst fs) := by
  obtain ⟨t, p, q⟩ := ha.ex
  refine ⟨_, pe_lst p, ?_⟩
  intro H0 Z0 H Z σ ρ S Q h
  unfold tLst
  refine q S _ ?_
  revert h
  unfold eLst PostA PostE
  cases fs ρ with
  | bad => exact id
  | err cn d => exact id
  | ok os =>
    rw [Res.bind_ok]
    by_cases hc : os.length ≤ lineMax ∧ os.all nS = true
    · rw [if_pos hc]
      intro h vs H1 Z1 g1 e1 o1 n1
      refine ⟨by rw [o1.len, ← line_eq]; exact hc.1, fun q hq => ?_⟩
      have e2 := Ext.new (Z := Z1) (o := .lst vs) e1.zd hq
      refine h (.ref q) _ Z1 (q :: g1) (e1.trans e2) ⟨q, vs, g1, rfl, rfl, upd_same, Owns.ext e2 (OwnA.owns hc.2 o1)⟩ fun _ => ?_
      have m := n1 trivial
      refine ⟨List.nodup_cons.mpr ⟨fun z => OwnA.ne o1 q z hq, m.1⟩, fun a ha => ?_⟩
      rcases List.mem_cons.mp ha with z | ha
      · subst z
        exact ⟨fun z => e1.zd _ z hq, e1.back hq⟩
      · exact m.2 a ha
    · rw [if_neg hc]
      exact fun h => h.elim
theorem mkT_own {os : List O} {a : Addr} {vs : List V} {g : List Addr} (h : SqT K H a vs) (ho : Owns H Z K os vs g) : Own H Z K (mkT os) (.ref a) g := by
  unfold mkT
  cases e : allZ os with
  | none => exact ⟨a, vs, rfl, h, ho⟩
  | some ds =>
    rw [allZ_eq e] at ho
    obtain ⟨e1, e2⟩ := ho.allz
    exact ⟨e1, a, vs, rfl, h, e2⟩
theorem pu_tup {k : Nat} (ha : PAX X W own es fs) : PX X W own (.Tuple es k pos) (eTup fs) := by
  obtain ⟨t, p, q⟩ := ha.ex
  refine ⟨_, pe_tup p, ?_⟩
  intro H0 Z0 H Z σ ρ S Q h
  unfold tTup
  refine q S _ ?_
  revert h
  unfold eTup PostA PostE
  cases fs ρ with
  | bad => exact id
  | err cn d => exact id
  | ok os =>
    rw [Res.bind_ok]
    by_cases hc : os.length ≤ lineMax ∧ os.all nS = true
    · rw [if_pos hc]
      intro h vs H1 Z1 g1 e1 o1 n1
      refine ⟨by rw [o1.len, ← line_eq]; exact hc.1, fun q hq => ?_⟩
      have e2 := Ext.new (Z := Z1) (o := .tup vs) e1.zd hq
      exact h (.ref q) _ Z1 g1 (e1.trans e2) (mkT_own (SqT.of upd_same) (Owns.ext e2 (OwnA.owns hc.2 o1))) n1
    · rw [if_neg hc]
      exact fun h => h.elim
/-! ### slices -/
theorem bnd_eq (n : Nat) (o : Option Int) (d : Nat) : HT.sIx n d o = (o.map (bnd n)).getD d := by cases o <;> rfl
theorem cut_eq (vs : List V) (lo hi : Option Int) : cutV vs lo hi = cut vs lo hi := by
  unfold cutV cut
  rw [bnd_eq, bnd_eq]
theorem RZs.get : ∀ {ds : List PyData} {vs : List V}, RZs H Z K ds vs → ∀ n, RZs H Z K (ds.take n) (vs.take n) ∧ RZs H Z K (ds.drop n) (vs.drop n)
  | [], vs, h, n => by rw [show vs = [] from h]; simp [RZs]
  | d :: ds, vs, h, n => by
    obtain ⟨v, r, rfl, h1, h2⟩ := h
    cases n with
    | zero => exact ⟨rfl, v, r, rfl, h1, h2⟩
    | succ n =>
      obtain ⟨q1, q2⟩ := RZs.get h2 n
      exact ⟨⟨v, _, rfl, h1, q1⟩, q2⟩
theorem RZs.cut {ds : List PyData} {vs : List V} (h : RZs H Z K ds vs) (lo hi : Option Int) : RZs H Z K (U.cut ds lo hi) (U.cut vs lo hi) := by
  unfold U.cut
  rw [h.length]
  exact (((h.get _).2).get _).1
structure PO' (X : Cx) (W : WX) (e : Option Expr) (p : Env → Res (Option Int)) : Prop where
  ex : ∃ t : TO, PO X e t ∧ ∀ {H0 Z0 H Z σ ρ}, SR X.K H0 Z0 H Z σ ρ → ∀ Q : Option Int → Hp → Prop, (match p ρ with
    | .ok i => ∀ H' Z', Ext H Z H' Z' → Q i H'
    | .err c d => ErrP X W σ H Z c d
    | .bad => False) → t σ H Q
theorem po_no : PO' X W none pNo := ⟨_, po_none, fun S Q h => h _ _ (Ext.refl S.ext.zd)⟩
theorem po_so (ha : PuB X W a fa) : PO' X W (some a) (pSo fa) := by
  obtain ⟨t, p, q⟩ := ha.ex
  refine ⟨_, po_some p, ?_⟩
  intro H0 Z0 H Z σ ρ S Q h
  unfold tPart
  refine q S _ ?_
  revert h
  unfold pSo PostE
  cases fa ρ with
  | bad => exact id
  | err cn d => exact id
  | ok o =>
    cases o with
    | z d =>
      cases d with
      | int i => exact fun h v H1 Z1 g1 e1 o1 _ => ⟨i, o1.2, h H1 Z1 e1⟩
      | _ => exact fun h => h.elim
    | _ => exact fun h => h.elim
def rCut (K : PySem.W.Frag) : V → Option Int → Option Int → Hp → VK → Prop := fun x lo hi H Q => rSlL K x lo hi H Q ∨ rSlA K x lo hi H Q
theorem gr_cut {o : O} {v : V} {fp : List Addr} {lo hi : Option Int} (hz : ∀ a, Z a → H a ≠ none) (o1 : Own H Z K o v fp) (Q : VK) (p : PostG H Z K (gCut o lo hi) Q) : rCut K v lo hi H Q := by
  revert p
  unfold gCut
  cases e : lz o with
  | some ds =>
    obtain ⟨a, vs, rfl, h1, h2⟩ := o1.lz e
    exact fun p => .inl ⟨a, vs, rfl, SqL.of h1, fun q hq => PostG.lst hz (by rw [cut_eq]; exact h2.cut lo hi) p hq⟩
  | none =>
    cases e' : tz o with
    | none => exact fun p => p.elim
    | some ds =>
      obtain ⟨a, vs, rfl, h1, h2⟩ := o1.tz e'
      refine fun p => .inr ⟨a, vs, rfl, h1, fun hw => ?_, fun _ q hq => ?_⟩
      · have e2 : U.cut vs lo hi = vs := by
          rw [← cut_eq]
          unfold cutV
          rw [hw.1, hw.2]
          simp
        have h3 := h2.cut lo hi
        rw [e2] at h3
        exact PostG.z hz (d := .tuple (U.cut ds lo hi)) ⟨a, vs, rfl, h1, h3⟩ p
      · rw [cut_eq]
        have e2 := Ext.new (Z := Z) (o := .tup (U.cut vs lo hi)) hz hq
        exact p (.ref q) _ Z [] e2 ⟨rfl, q, U.cut vs lo hi, rfl, SqT.of upd_same, RZs.kp e2.kp _ _ (h2.cut lo hi)⟩ New.nil
theorem pu_cut {lo hi : Option Expr} {p2 : Pos} {pl pr : Env → Res (Option Int)} (ha : PuB X W a fa) (hl : PO' X W lo pl) (hh : PO' X W hi pr) : PuE X W (.Subscript a (.Slice lo hi none p2) pos) (eCut fa pl pr) := by
  obtain ⟨t, p, q⟩ := ha.ex
  obtain ⟨t1, p1, q1⟩ := hl.ex
  obtain ⟨t2, p2', q2⟩ := hh.ex
  refine ⟨_, pe_slice (r := rCut X.K) (sl_list.or sl_tupA) p p1 p2', ?_⟩
  intro H0 Z0 H Z σ ρ S Q h
  unfold tSl
  refine q S _ ?_
  revert h
  unfold eCut PostE
  cases fa ρ with
  | bad => exact id
  | err cn d => exact id
  | ok o =>
    intro h v H1 Z1 g1 e1 o1 _
    refine q1 (S.grow e1) _ ?_
    revert h
    rw [Res.bind_ok]
    cases pl ρ with
    | bad => exact id
    | err cn d => exact fun h => ErrP.grow h e1
    | ok i =>
      intro h H2 Z2 e2
      refine q2 ((S.grow e1).grow e2) _ ?_
      revert h
      rw [Res.bind_ok]
      cases pr ρ with
      | bad => exact id
      | err cn d => exact fun h => ErrP.grow h (e1.trans e2)
      | ok j =>
        intro h H3 Z3 e3
        refine gr_cut e3.zd (o1.ext (e2.trans e3)) Q ?_
        revert h
        rw [Res.bind_ok]
        cases gCut o i j with
        | ok q => exact fun p v4 H4 Z4 g4 e4 o4 n4 => p v4 H4 Z4 g4 (((e1.trans e2).trans e3).trans e4) o4 fun _ => n4.grow ((e1.trans e2).trans e3)
        | err _ _ => exact fun p => p
        | bad => exact fun p => p
/-! ### what Python brings, called -/
def GRL (K : PySem.W.Frag) (r : List V → Hp → VK → Prop) (g : List O → Res O) : Prop :=
  ∀ {H : Hp} {Z : Zs} {vs : List V} {os : List O} {fp : List Addr}, (∀ a, Z a → H a ≠ none) → OwnA H Z K os vs fp → ∀ Q : VK, PostG H Z K (g os) Q → r vs H Q
theorem sat_k {t : TA} {r : List V → Hp → VK → Prop} {g : List O → Res O} (q : ∀ {H0 Z0 H Z σ ρ}, SR X.K H0 Z0 H Z σ ρ → ∀ Q, PostA X W False σ H Z (fs ρ) Q → t σ H Q) (G : GRL X.K r g) : Sat X W True (tCB r t) (eK g fs) := by
  intro H0 Z0 H Z σ ρ S Q h
  unfold tCB
  refine q S _ ?_
  revert h
  unfold eK PostA PostE
  cases fs ρ with
  | bad => exact id
  | err cn d => exact id
  | ok os =>
    intro h vs H1 Z1 g1 e1 o1 _
    refine G e1.zd o1 Q ?_
    revert h
    rw [Res.bind_ok]
    cases g os with
    | ok q => exact fun p v4 H4 Z4 g4 e4 o4 n4 => p v4 H4 Z4 g4 (e1.trans e4) o4 fun _ => n4.grow e1
    | err _ _ => exact fun p => p
    | bad => exact fun p => p
theorem pu_kb {id : String} {x : Str} {p : Pos} {r : List V → Hp → VK → Prop} {g : List O → Res O} (hc : CallR X (.builtin id) r) (G : GRL X.K r g) (hg : Gl X x) (hm : X.mg x = none) (hv : bootBuiltins x = some (.builtin id)) (hn : x ≠ "__name__") (hdb : (x == ("__debug__" : Str)) = false)
    (he : starEach (e :: es) X.env = (false, eval e X.env) :: starEach es X.env) (hpl : (backTo pos (starEach es X.env)).any (·.1) = false) (ha : PuAB X W (e :: es) fs) : PuE X W (.Call (.Name x p) (e :: es) [] pos) (eK g fs) := by
  obtain ⟨t, p, q⟩ := ha.ex
  exact ⟨_, pe_callB hc hg hm hv p hn hdb he hpl, sat_k q G⟩
theorem pu_kt {T : String} {x : Str} {p : Pos} {r : List V → Hp → VK → Prop} {g : List O → Res O} (hc : CallR X (.type T) r) (G : GRL X.K r g) (hg : Gl X x) (hm : X.mg x = none) (hv : bootBuiltins x = some (.type T)) (hn : x ≠ "__name__") (hdb : (x == ("__debug__" : Str)) = false)
    (he : starEach (e :: es) X.env = (false, eval e X.env) :: starEach es X.env) (hpl : (backTo pos (starEach es X.env)).any (·.1) = false) (ha : PuAB X W (e :: es) fs) : PuE X W (.Call (.Name x p) (e :: es) [] pos) (eK g fs) := by
  obtain ⟨t, p, q⟩ := ha.ex
  exact ⟨_, pe_callTy hc hg hm hv p hn hdb he hpl, sat_k q G⟩
theorem ownA1 {o : O} {vs : List V} {fp : List Addr} (h : OwnA H Z K [o] vs fp) : ∃ v, vs = [v] ∧ ∃ g, Own H Z K o v g := by
  obtain ⟨v, r, f, g, rfl, rfl, h1, h2, h3⟩ := h
  exact ⟨v, by rw [h2], f, h1⟩
theorem ownA2 {o p : O} {vs : List V} {fp : List Addr} (h : OwnA H Z K [o, p] vs fp) : ∃ v w, vs = [v, w] ∧ (∃ g, Own H Z K o v g) ∧ ∃ g, Own H Z K p w g := by
  obtain ⟨v, r, f, g, rfl, rfl, h1, h2⟩ := h
  obtain ⟨w, e, h2⟩ := ownA1 h2
  exact ⟨v, w, by rw [e], ⟨f, h1⟩, h2⟩
theorem gr_len : GRL K (fun xs H Q => ∃ p ys, xs = [.ref p] ∧ (SqL K H p ys ∨ SqT K H p ys) ∧ Q (.int ys.length) H) kLen := fun {H Z vs os fp} hz oA Q => by
  unfold kLen
  split
  · obtain ⟨v, rfl, g, _, a, rfl, h⟩ := ownA1 oA
    refine fun p => ⟨a, _, rfl, .inl h.sql, ?_⟩
    rw [List.length_map]
    exact PostG.z hz rz_int p
  · rename_i o _
    obtain ⟨v, rfl, g, h⟩ := ownA1 oA
    cases e : seqO o with
    | some os =>
      obtain ⟨a, vs, g', rfl, h1, h2, _⟩ := h.seq e
      refine fun p => ⟨a, vs, rfl, .inl (SqL.of h1), ?_⟩
      rw [h2.length]
      exact PostG.z hz rz_int p
    | none =>
      dsimp only
      cases e' : tupO o with
      | none => exact fun p => p.elim
      | some os =>
        obtain ⟨a, vs, rfl, h1, h2⟩ := h.tup e'
        refine fun p => ⟨a, vs, rfl, .inr h1, ?_⟩
        rw [h2.length]
        exact PostG.z hz rz_int p
  · exact fun p => p.elim
theorem gr_abs : GRL K (fun xs H Q => ∃ i, xs = [.int i] ∧ Q (.int (if i < 0 then -i else i)) H) kAbs := fun {H Z vs os fp} hz oA Q => by
  unfold kAbs
  split
  · obtain ⟨v, rfl, g, _, rfl⟩ := ownA1 oA
    exact fun p => ⟨_, rfl, PostG.z hz rz_int p⟩
  · exact fun p => p.elim
theorem gr_int : GRL K (fun xs H Q => (∃ i, xs = [.int i] ∧ Q (.int i) H) ∨ ∃ k, xs = [.bl k] ∧ Q (.int (if k then 1 else 0)) H) kInt := fun {H Z vs os fp} hz oA Q => by
  unfold kInt
  split
  · obtain ⟨v, rfl, g, _, rfl⟩ := ownA1 oA
    exact fun p => .inl ⟨_, rfl, PostG.z hz rz_int p⟩
  · obtain ⟨v, rfl, g, _, rfl⟩ := ownA1 oA
    exact fun p => .inr ⟨_, rfl, PostG.z hz rz_int p⟩
  · exact fun p => p.elim
theorem gr_min2 : GRL K (fun xs H Q => ∃ i j, xs = [.int i, .int j] ∧ Q (.int (if j < i then j else i)) H) kMin2 := fun {H Z vs os fp} hz oA Q => by
  unfold kMin2
  split
  · obtain ⟨v, w, rfl, ⟨_, _, rfl⟩, ⟨_, _, rfl⟩⟩ := ownA2 oA
    exact fun p => ⟨_, _, rfl, PostG.z hz rz_int p⟩
  · exact fun p => p.elim
theorem gr_max2 : GRL K (fun xs H Q => ∃ i j, xs = [.int i, .int j] ∧ Q (.int (if j > i then j else i)) H) kMax2 := fun {H Z vs os fp} hz oA Q => by
  unfold kMax2
  split
  · obtain ⟨v, w, rfl, ⟨_, _, rfl⟩, ⟨_, _, rfl⟩⟩ := ownA2 oA
    exact fun p => ⟨_, _, rfl, PostG.z hz rz_int p⟩
  · exact fun p => p.elim
theorem gr_list : GRL K (fun xs H Q => ∃ p ys, xs = [.ref p] ∧ (SqL K H p ys ∨ SqT K H p ys) ∧ ∀ l, H l = none → Q (.ref l) (upd H l (.lst ys))) kList := fun {H Z vs os fp} hz oA Q => by
  unfold kList
  split
  · rename_i o
    obtain ⟨v, rfl, g, h⟩ := ownA1 oA
    cases e : lz o with
    | some ds =>
      obtain ⟨a, vs, rfl, h1, h2⟩ := h.lz e
      exact fun p => ⟨a, vs, rfl, .inl (SqL.of h1), fun l hl => PostG.lst hz h2 p hl⟩
    | none =>
      dsimp only
      cases e' : tz o with
      | none => exact fun p => p.elim
      | some ds =>
        obtain ⟨a, vs, rfl, h1, h2⟩ := h.tz e'
        exact fun p => ⟨a, vs, rfl, .inr h1, fun l hl => PostG.lst hz h2 p hl⟩
  · exact fun p => p.elim
end

section
variable {X : Cx} {W : WX} {own : Prop} {e a b c : Expr} {f fa fb fc : EV} {pos : Pos} {K : PySem.W.Frag} {r r' : R2} {g g' : O → O → Res O} {H : Hp} {Z : Zs} {ta tb : EB} {rest es : List Expr} {fs : EA}
/-! ### isinstance -/
def tyS : Ty → String
  | .int => "int" | .bool => "bool" | .list => "list" | .tuple => "tuple" | .str => "str"
theorem kitTy {K : PySem.W.Frag} {a b : String} {r : Bool} (h : kitB a b = some r) : PySem.W.kitOne K (.type a) (.type b) = some r := kit_ty h
theorem tyx_sqt {a : Addr} {vs : List V} (h : SqT K H a vs) : TyX K H (.ref a) (.type "tuple") := by
  rcases h with (h | ⟨o, h⟩) | ⟨o, its, n, hk, hc, _⟩
  · exact .base (.tup h)
  · exact .fTuple h
  · exact .kTuple hk hc
theorem isi_b (t : Ty) : kitB "bool" (tyS t) = some (isTy t (.bool true)) := by cases t <;> decide +kernel
theorem isi_i (t : Ty) : kitB "int" (tyS t) = some (isTy t (.int 0)) := by cases t <;> decide +kernel
theorem isi_s (t : Ty) : kitB "str" (tyS t) = some (isTy t (.str ⟨#[]⟩)) := by cases t <;> decide +kernel
theorem isi_l (t : Ty) : kitB "list" (tyS t) = some (isTy t (.list [])) := by cases t <;> decide +kernel
theorem isi_t (t : Ty) : kitB "tuple" (tyS t) = some (isTy t (.tuple [])) := by cases t <;> decide +kernel
theorem isi_n (t : Ty) : kitB "NoneType" (tyS t) = some (isTy t .none) := by cases t <;> decide +kernel
theorem own_ty {o : O} {v : V} {fp : List Addr} {t : Ty} {b : Bool} (h : Own H Z K o v fp) (e : gIsi t o = .ok (.z (.bool b))) : ∃ T, TyX K H v (.type T) ∧ kitB T (tyS t) = some b := by
  cases o with
  | z d =>
    obtain ⟨_, h⟩ := h
    cases d with
    | none => rw [show v = .non from h]; cases e; exact ⟨_, .base .non, isi_n t⟩
    | bool b => rw [show v = .bl b from h]; cases e; exact ⟨_, .base (.bl b), by rw [isi_b]; cases t <;> rfl⟩
    | int i => rw [show v = .int i from h]; cases e; exact ⟨_, .base (.int i), by rw [isi_i]; cases t <;> rfl⟩
    | str x => rw [show v = .str x from h]; cases e; exact ⟨_, .base (.str x), by rw [isi_s]; cases t <;> rfl⟩
    | list ds =>
      obtain ⟨a, vs, rfl, _, h1, h2⟩ := h
      cases e
      exact ⟨_, .base (.lst h1), by rw [isi_l]; cases t <;> rfl⟩
    | tuple ds =>
      obtain ⟨a, vs, rfl, h1, h2⟩ := h
      cases e
      exact ⟨_, tyx_sqt h1, by rw [isi_t]; cases t <;> rfl⟩
    | dict _ => exact h.elim
  | l os =>
    obtain ⟨a, vs, g, rfl, rfl, h1, h2⟩ := h
    cases e
    exact ⟨_, .base (.lst h1), isi_l t⟩
  | t os =>
    obtain ⟨a, vs, rfl, h1, h2⟩ := h
    cases e
    exact ⟨_, tyx_sqt h1, isi_t t⟩
  | dk _ => cases e
  | dt _ => cases e
  | s _ => cases e
theorem gIsi_ok {t : Ty} {o : O} : gIsi t o = .bad ∨ ∃ b, gIsi t o = .ok (.z (.bool b)) := by
  cases o with
  | z d => exact .inr ⟨_, rfl⟩
  | l _ => exact .inr ⟨_, rfl⟩
  | t _ => exact .inr ⟨_, rfl⟩
  | dk _ => exact .inl rfl
  | dt _ => exact .inl rfl
  | s _ => exact .inl rfl
theorem pu_isi (t : Ty) {x : Str} {p p2 : Pos} (hgI : Gl X "isinstance") (hmI : X.mg "isinstance" = none) (hgT : Gl X x) (hmT : X.mg x = none) (hv : bootBuiltins x = some (.type (tyS t))) (hn : x ≠ "__name__") (hd : (x == ("__debug__" : Str)) = false)
    (he : starEach [a, .Name x p2] X.env = (false, eval a X.env) :: starEach [.Name x p2] X.env) (he2 : starEach [.Name x p2] X.env = (false, eval (.Name x p2) X.env) :: starEach [] X.env) (hpl : (backTo pos (starEach [.Name x p2] X.env)).any (·.1) = false)
    (ha : PuB X W a fa) : PuE X W (.Call (.Name "isinstance" p) [a, .Name x p2] [] pos) (eIsi t fa) := by
  obtain ⟨ta, pa, qa⟩ := ha.ex
  have pT : PE X (.Name x p2) (tC (.ty (tyS t))) := pe_bltn hgT hmT hv rfl hn hd
  refine ⟨_, pe_callB call_isi hgI hmI PyProof.Rows.boot_isinstance (pa_cons pa (pa_cons pT pa_nil he2) he) (by decide) (by decide) he hpl, ?_⟩
  intro H0 Z0 H Z σ ρ S Q h
  show ta σ H fun x H1 => rIsi X.K [x, .ty (tyS t)] H1 Q
  refine qa S _ ?_
  revert h
  unfold eIsi e1 PostE
  cases fa ρ with
  | bad => exact id
  | err cn d => exact id
  | ok o =>
    intro h v H1 Z1 g1 e1 o1 _
    rw [Res.bind_ok] at h
    rcases gIsi_ok (t := t) (o := o) with q | ⟨b, q⟩
    · rw [q] at h
      exact h.elim
    · rw [q] at h
      obtain ⟨T, h1, h2⟩ := own_ty o1 q
      exact ⟨v, _, _, _, b, rfl, .ty _, h1, kit_ty h2, h (.bl b) H1 Z1 [] e1 ⟨rfl, rfl⟩ fun _ => New.nil⟩
end
/-! ### statements -/
def PostS (X : Cx) (W : WX) (H0 : Hp) (Z0 : Zs) (H : Hp) (Z : Zs) (D : Ends) : Out → Prop
  | .nx ρ' => ∀ σ' H' Z', Kp H Z H' Z' → SR X.K H0 Z0 H' Z' σ' ρ' → D.nx σ' H'
  | .bk ρ' => ∀ σ' H' Z', Kp H Z H' Z' → SR X.K H0 Z0 H' Z' σ' ρ' → D.bk σ' H'
  | .ct ρ' => ∀ σ' H' Z', Kp H Z H' Z' → SR X.K H0 Z0 H' Z' σ' ρ' → D.ct σ' H'
  | .rt o => ∀ v H' Z' g, Ext H0 Z0 H' Z' → Own H' Z' X.K o v g → New H0 Z' g → D.rt v H'
  | .err c d ρ' => ∀ C dx v σ' H' Z', X.mg c = some (.ref C) → Kp H Z H' Z' → SR X.K H0 Z0 H' Z' σ' ρ' → H' dx = some (.xd [("at", v)]) → RZ H' Z' X.K d v → W (.ref C) (some dx) σ' H'
  | .bad => False
abbrev SatS (X : Cx) (W : WX) (t : TS) (f : ES) : Prop := ∀ {H0 Z0 H Z σ ρ}, SR X.K H0 Z0 H Z σ ρ → ∀ D, PostS X W H0 Z0 H Z D (f ρ) → t D σ H
structure PuS (X : Cx) (W : WX) (st : Stmt) (f : ES) : Prop where
  ex : ∃ t : TS, PS X st t ∧ SatS X W t f
structure PuSs (X : Cx) (W : WX) (st : List Stmt) (f : ES) : Prop where
  ex : ∃ t : TS, PSs X st t ∧ SatS X W t f
section
variable {X : Cx} {W : WX} {own : Prop} {e a b c : Expr} {f fa fb fc : EV} {pos : Pos} {H0 H H' : Hp} {Z0 Z Z' : Zs} {σ : St} {ρ : Env} {ta tb : EB} {st : Stmt} {sts sts' : List Stmt} {fs gs : ES} {D : Ends}
theorem PostS.grow {r : Out} (p : PostS X W H0 Z0 H Z D r) (e : Kp H Z H' Z') : PostS X W H0 Z0 H' Z' D r := by
  cases r with
  | nx ρ' => exact fun σ' H2 Z2 k => p σ' H2 Z2 (e.trans k)
  | bk ρ' => exact fun σ' H2 Z2 k => p σ' H2 Z2 (e.trans k)
  | ct ρ' => exact fun σ' H2 Z2 k => p σ' H2 Z2 (e.trans k)
  | rt o => exact p
  | err c d ρ' => exact fun C dx v σ' H2 Z2 m k => p C dx v σ' H2 Z2 m (e.trans k)
  | bad => exact p
/-- an error of an expression -/
theorem PostS.errE {cn : Str} {d : PyData} (S : SR X.K H0 Z0 H Z σ ρ) (p : PostS X W H0 Z0 H Z D (.err cn d ρ)) : ErrP X W σ H Z cn d :=
  fun C dx v H2 Z2 m e h r => p C dx v σ H2 Z2 m e.kp (S.grow e) h r
theorem ps_pass' : PuS X W (.Pass pos) sPass := ⟨_, ps_pass, fun S D p => p _ _ _ Kp.refl S⟩
theorem ps_brk : PuS X W (.Break pos) sBrk := ⟨_, ps_break, fun S D p => p _ _ _ Kp.refl S⟩
theorem ps_cnt : PuS X W (.Continue pos) sCnt := ⟨_, ps_continue, fun S D p => p _ _ _ Kp.refl S⟩
theorem ps_doc' {x j pos'} : PuS X W (.Expr (.Constant (.str x) j pos) pos') sPass := ⟨_, ps_doc, fun S D p => p _ _ _ Kp.refl S⟩
theorem pss_nil' : PuSs X W [] sPass := ⟨_, pss_nil, fun S D p => p _ _ _ Kp.refl S⟩
theorem pss_one' (h : PuS X W st fs) : PuSs X W [st] fs := by
  obtain ⟨t, p, q⟩ := h.ex
  exact ⟨t, pss_one p, q⟩
theorem pss_cons' (h : PuS X W st fs) (h' : PuSs X W sts gs) : PuSs X W (st :: sts) (sSeq fs gs) := by
  obtain ⟨t, p, q⟩ := h.ex
  obtain ⟨u, p', q'⟩ := h'.ex
  refine ⟨_, pss_cons p p', ?_⟩
  intro H0 Z0 H Z σ ρ S D h
  unfold tSeq
  refine q S _ ?_
  revert h
  unfold sSeq
  cases fs ρ with
  | nx ρ' => exact fun h σ' H2 Z2 k S2 => q' S2 D (PostS.grow h k)
  | bk ρ' => exact id
  | ct ρ' => exact id
  | rt o => exact id
  | err c d ρ' => exact id
  | bad => exact id
theorem ps_frz {i : Nat} (h : PuS X W st fs) : PuS X W st (sFrz i fs) := by
  obtain ⟨t, p, q⟩ := h.ex
  refine ⟨t, p, ?_⟩
  intro H0 Z0 H Z σ ρ S D h
  unfold sFrz frz at h
  revert h
  cases hr : ρ[i]? with
  | none => exact fun h => q S D h
  | some s =>
    cases s with
    | none => exact fun h => q S D h
    | some s =>
      cases s with
      | r o => exact fun h => q S D h
      | w o =>
        dsimp only
        by_cases hn : nS o = true
        · rw [if_pos hn]
          intro h
          obtain ⟨fp, hs, nd, k⟩ := S.own
          obtain ⟨w, f, g, g', e1, ⟨v, rfl, e2⟩, rfl, q2⟩ := Sls.part hs hr
          have mem : ∀ a, a ∈ f → a ∈ g ++ f ++ g' := fun a ha => List.mem_append_left _ (List.mem_append_right _ ha)
          have kp : Kp H Z H (fun a => Z a ∨ a ∈ f) := ⟨fun a z => .inl z, fun a o z e => e, fun _ _ h => h, fun _ _ _ h => h⟩
          have q3 := q2 H (fun a => Z a ∨ a ∈ f) (some (.w (.z (strip o)))) (some v) [] kp (fun _ _ => rfl) ⟨v, rfl, rfl, Own.data (fun a z => .inl z) o v f (fun a ha => .inr ha) hn e2⟩
          have hσ : σ.set i (some v) = σ := by
            have hi : i < σ.length := (List.getElem?_eq_some_iff.mp e1).1
            apply List.ext_getElem?
            intro j
            rw [List.getElem?_set]
            split
            · rename_i hj
              subst hj
              rw [e1]
            · rfl
          rw [hσ] at q3
          rw [List.append_assoc, List.nodup_append] at nd
          obtain ⟨n1, n2, n3⟩ := nd
          rw [List.nodup_append] at n2
          refine q (ρ := ρ.set i (some (.w (.z (strip o))))) (Z := fun a => Z a ∨ a ∈ f) ⟨⟨S.ext.keep, fun a z => .inl (S.ext.zz a z), fun a z => ?_, fun a z => ?_⟩, g ++ [] ++ g', q3, ?_, fun a ha => ?_⟩ D (PostS.grow h kp)
          · rcases z with z | z
            · exact S.ext.zn a z
            · exact .inr (k a (mem a z)).2
          · rcases z with z | z
            · exact S.ext.zd a z
            · exact e2.ne z
          · rw [List.append_nil]
            exact List.nodup_append.mpr ⟨n1, n2.2.1, fun a ha b hb => n3 a ha b (List.mem_append_right _ hb)⟩
          · rw [List.append_nil] at ha
            rcases List.mem_append.mp ha with ha | ha
            · refine ⟨fun z => ?_, (k a (List.mem_append_left _ (List.mem_append_left _ ha))).2⟩
              rcases z with z | z
              · exact (k a (List.mem_append_left _ (List.mem_append_left _ ha))).1 z
              · exact n3 a ha a (List.mem_append_left _ z) rfl
            · refine ⟨fun z => ?_, (k a (List.mem_append_right _ ha)).2⟩
              rcases z with z | z
              · exact (k a (List.mem_append_right _ ha)).1 z
              · exact n2.2.2 a z a ha rfl
        · rw [if_neg hn]
          exact fun h => q S D h
theorem ps_ret' (h : PuE X W e f) : PuS X W (.Return (some e) pos) (sRet f) := by
  obtain ⟨t, p, q⟩ := h.ex
  refine ⟨_, ps_ret p, ?_⟩
  intro H0 Z0 H Z σ ρ S D h
  unfold tRet
  refine q S _ ?_
  revert h
  unfold sRet PostE Res.out
  cases f ρ with
  | bad => exact id
  | err cn d => exact fun h => PostS.errE S h
  | ok o => exact fun h v H1 Z1 g1 e1 o1 n1 => h v H1 Z1 g1 (S.ext.trans e1) o1 ((n1 trivial).grow S.ext)
theorem ps_retN' : PuS X W (.Return none pos) sRetN := ⟨_, ps_retN, fun S D h => h .non _ _ [] S.ext ⟨rfl, rfl⟩ New.nil⟩
theorem ps_drop' (hs : swapsWith e none pos.line X.env = pure false) (h : PX X W own e f) : PuS X W (.Expr e pos) (sDrop f) := by
  obtain ⟨t, p, q⟩ := h.ex
  refine ⟨_, ps_expr p hs, ?_⟩
  intro H0 Z0 H Z σ ρ S D h
  unfold tDrop
  refine q S _ ?_
  revert h
  unfold sDrop PostE Res.out
  cases f ρ with
  | bad => exact id
  | err cn d => exact fun h => PostS.errE S h
  | ok o => exact fun h v H1 Z1 g1 e1 o1 n1 => h σ H1 Z1 e1.kp (S.grow e1)
theorem ps_if' (hc : PuT X W c ta) (h1 : PuSs X W sts fs) (h2 : PuSs X W sts' gs) : PuS X W (.If c sts sts' pos) (sIf ta fs gs) := by
  obtain ⟨tc, pc, qc⟩ := hc.ex
  obtain ⟨t, p, q⟩ := h1.ex
  obtain ⟨u, p', q'⟩ := h2.ex
  refine ⟨_, ps_if pc p p', ?_⟩
  intro H0 Z0 H Z σ ρ S D h
  unfold tIfS
  refine qc S _ ?_
  revert h
  unfold sIf PostT Res.out
  cases ta ρ with
  | bad => exact id
  | err cn d => exact fun h => PostS.errE S h
  | ok k =>
    intro h H1 Z1 e1
    cases k with
    | true =>
      rw [if_pos rfl]
      exact q (S.grow e1) D (PostS.grow h e1.kp)
    | false =>
      rw [if_neg Bool.false_ne_true]
      exact q' (S.grow e1) D (PostS.grow h e1.kp)
/-- return x, x one's own -/
theorem ps_mv (i : Nat) {x : Str} {p : Pos} (hN : X.N[i]? = some x) (hv : Vis X.env.scope x) (hd : (x == ("__debug__" : Str)) = false) (hcd : (x == ("__classdict__" : Str)) = false) : PuS X W (.Return (some (.Name x p)) pos) (sRetMv i) := by
  refine ⟨_, ps_ret (pe_var hN hv hd hcd), ?_⟩
  intro H0 Z0 H Z σ ρ S D h
  unfold sRetMv at h
  revert h
  cases hr : ρ[i]? with
  | none => exact fun h => h.elim
  | some s =>
    cases s with
    | none => exact fun h => h.elim
    | some s =>
      cases s with
      | r o => exact fun h => h.elim
      | w o =>
        intro h
        obtain ⟨fp, hs, nd, k⟩ := S.own
        obtain ⟨w, f, g, g', e1, ⟨v, rfl, e2⟩, rfl, q2⟩ := Sls.part hs hr
        refine ⟨v, e1, h v H Z f S.ext e2 ⟨?_, fun a ha => k a (List.mem_append_left _ (List.mem_append_right _ ha))⟩⟩
        rw [List.append_assoc, List.nodup_append] at nd
        exact (List.nodup_append.mp nd.2.1).1
end

/-! ### what is walked -/
def iSq (K : PySem.W.Frag) (tl : TE) : TI := fun σ H R => tl σ H fun x H1 => (∃ a, x = .ref a ∧ (∃ xs, SqL K H1 a xs) ∧ R (Itl K a) H1) ∨ ∃ a, x = .ref a ∧ (∃ xs, SqT K H1 a xs) ∧ R (Itt K a) H1
theorem pi_sq {X : Cx} {tg l : Expr} {tl : TE} (hl : PE X l tl) : PI X tg l (iSq X.K tl) := by
  refine ⟨fun pins s σ H R I h => thn (hl.run pins s σ H _ I h) fun v s1 ⟨x, H1, I1, r1, q1⟩ => ?_⟩
  rcases q1 with ⟨a, rfl, ⟨xs, hq⟩, q⟩ | ⟨a, rfl, ⟨xs, hq⟩, q⟩ <;> cases r1
  · obtain ⟨its, rv, p, hz⟩ := I1.list hq
    refine wpAny_pyIter_list p.isList ⟨s1.heap.objs.size, [s1.heap.objs.size], _, _, H1, rfl, I1.kept (t' := s1.toks) fun b o e => Heap.get?_push_of_some _ e, turn_list a _, ⟨_, Heap.get?_push_size _ rfl, rfl, rfl⟩, fun b hb => ?_, q⟩
    obtain rfl : b = s1.heap.objs.size := by simpa using hb
    exact I1.fpOk (Nat.le_refl _) (I1.hok.fresh (Nat.le_refl _))
  · obtain ⟨its, rv, p, hz⟩ := I1.tuple hq
    refine wpAny_pyIter_tuple (show s1.heap.IsTuple a its.toArray from p) ⟨s1.heap.objs.size, [s1.heap.objs.size], _, _, H1, rfl, I1.kept (t' := s1.toks) fun b o e => Heap.get?_push_of_some _ e, turn_tuple a _, ⟨_, Heap.get?_push_size _ rfl, rfl, rfl⟩, fun b hb => ?_, q⟩
    obtain rfl : b = s1.heap.objs.size := by simpa using hb
    exact I1.fpOk (Nat.le_refl _) (I1.hok.fresh (Nat.le_refl _))
/-- the iterator J gives the items, from H, Z on: while the heap grows (k = False), while what is data stands (k = True) -/
def Feed (K : PySem.W.Frag) (k : Prop) (J : It) (items : List O) (H : Hp) (Z : Zs) : Prop :=
  ∀ i H2 Z2, (k → Kp H Z H2 Z2) → (¬ k → Ext H Z H2 Z2) → (∀ a, Z2 a → H2 a ≠ none) →
    (∀ o, items[i]? = some o → J.go i H2 ∧ ∀ x H3, J.yld i H2 x H3 → ∃ Z3 g, Ext H2 Z2 H3 Z3 ∧ Own H3 Z3 K o x g) ∧ (i = items.length → J.stop i H2)
def PostI (X : Cx) (W : WX) (k : Prop) (σ : St) (H : Hp) (Z : Zs) (r : Res (List O)) (R : It → Hp → Prop) : Prop := match r with
  | .ok items => ∀ J H' Z', Ext H Z H' Z' → Feed X.K k J items H' Z' → R J H'
  | .err c d => ErrP X W σ H Z c d
  | .bad => False
structure PIX (X : Cx) (W : WX) (k : Prop) (tg e : Expr) (f : EI) : Prop where
  ex : ∃ w : TI, PI X tg e w ∧ ∀ {H0 Z0 H Z σ ρ}, SR X.K H0 Z0 H Z σ ρ → ∀ R, PostI X W k σ H Z (f ρ) R → w σ H R
section
variable {X : Cx} {W : WX} {k : Prop} {e a b tg : Expr} {f fa fb : EV} {pos : Pos} {K : PySem.W.Frag} {H : Hp} {Z : Zs}
theorem Feed.weak {J : It} {items : List O} (h : Feed K True J items H Z) : Feed K k J items H Z := fun i H2 Z2 h1 h2 hz => h i H2 Z2 (fun _ => by
  by_cases hk : k
  · exact h1 hk
  · exact (h2 hk).kp) (fun n => absurd trivial n) hz
theorem pi_e {fi : EI} (h : PIX X W True tg e fi) : PIX X W k tg e fi := by
  obtain ⟨w, p, q⟩ := h.ex
  refine ⟨w, p, ?_⟩
  intro H0 Z0 H Z σ ρ S R h
  refine q S R ?_
  revert h
  unfold PostI
  cases fi ρ with
  | ok items => exact fun h J H' Z' e f => h J H' Z' e (Feed.weak f)
  | err c d => exact id
  | bad => exact id
theorem feed_l {ds : List PyData} {a : Addr} {vs : List V} (z : Z a) (h : H a = some (.lst vs)) (r : RZs H Z K ds vs) : Feed K True (Itl K a) (ds.map .z) H Z := fun i H2 Z2 h1 _ hz => by
  have kp := h1 trivial
  have h' := kp.zk _ _ z h
  have r' := RZs.owns _ _ (RZs.kp kp _ _ r)
  refine ⟨fun o e => ?_, fun e => ⟨vs, SqL.of h', by rw [r.length, e, List.length_map]; exact Nat.le_refl _⟩⟩
  obtain ⟨v, g, e1, e2, _⟩ := Owns.get r' e
  refine ⟨⟨vs, v, SqL.of h', e1⟩, fun x H3 y => ?_⟩
  obtain ⟨rfl, y⟩ := y
  have := Option.some.inj ((y _ (SqL.of h')).symm.trans e1)
  subst this
  exact ⟨Z2, g, Ext.refl hz, e2⟩
theorem feed_t {ds : List PyData} {a : Addr} {vs : List V} (h : SqT K H a vs) (r : RZs H Z K ds vs) : Feed K True (Itt K a) (ds.map .z) H Z := fun i H2 Z2 h1 _ hz => by
  have kp := h1 trivial
  have h' := SqT.kp kp h
  have r' := RZs.owns _ _ (RZs.kp kp _ _ r)
  refine ⟨fun o e => ?_, fun e => ⟨vs, h', by rw [r.length, e, List.length_map]; exact Nat.le_refl _⟩⟩
  obtain ⟨v, g, e1, e2, _⟩ := Owns.get r' e
  refine ⟨⟨vs, v, h', e1⟩, fun x H3 y => ?_⟩
  obtain ⟨rfl, y⟩ := y
  have := Option.some.inj ((y _ h').symm.trans e1)
  subst this
  exact ⟨Z2, g, Ext.refl hz, e2⟩
theorem pi_seqZ {own : Prop} (ha : PX X W own e f) : PIX X W True tg e (iSeqZ f) := by
  obtain ⟨t, p, q⟩ := ha.ex
  refine ⟨_, pi_sq p, ?_⟩
  intro H0 Z0 H Z σ ρ S R h
  unfold iSq
  refine q S _ ?_
  revert h
  unfold iSeqZ PostE PostI
  cases f ρ with
  | bad => exact id
  | err cn d => exact id
  | ok o =>
    rw [Res.bind_ok]
    cases o with
    | z d =>
      cases d with
      | list ds =>
        intro h v H1 Z1 g1 e1 o1 _
        obtain ⟨_, a, vs, rfl, z, h1, h2⟩ := o1
        exact .inl ⟨a, rfl, ⟨vs, SqL.of h1⟩, h _ H1 Z1 e1 (feed_l z h1 h2)⟩
      | tuple ds =>
        intro h v H1 Z1 g1 e1 o1 _
        obtain ⟨_, a, vs, rfl, h1, h2⟩ := o1
        exact .inr ⟨a, rfl, ⟨vs, h1⟩, h _ H1 Z1 e1 (feed_t h1 h2)⟩
      | _ => exact fun h => h.elim
    | _ => exact fun h => h.elim
/-- what is one's own, in a comprehension -/
theorem pi_seq {own : Prop} (ha : PX X W own e f) : PIX X W False tg e (iSeq f) := by
  obtain ⟨t, p, q⟩ := ha.ex
  refine ⟨_, pi_sq p, ?_⟩
  intro H0 Z0 H Z σ ρ S R h
  unfold iSq
  refine q S _ ?_
  revert h
  unfold iSeq PostE PostI
  cases f ρ with
  | bad => exact id
  | err cn d => exact id
  | ok o =>
    rw [Res.bind_ok]
    cases es : seqO o with
    | some os =>
      intro h v H1 Z1 g1 e1 o1 _
      obtain ⟨a, vs, g', rfl, h1, h2, _⟩ := o1.seq es
      refine .inl ⟨a, rfl, ⟨vs, SqL.of h1⟩, h _ H1 Z1 e1 fun i H2 Z2 _ he hz => ?_⟩
      have ex := he id
      have h1' := ex.keep _ _ h1
      have h2' := Owns.ext ex h2
      refine ⟨fun o e => ?_, fun e => ⟨vs, SqL.of h1', by rw [h2.length, e]; exact Nat.le_refl _⟩⟩
      obtain ⟨v, g, q1, q2, _⟩ := Owns.get h2' e
      refine ⟨⟨vs, v, SqL.of h1', q1⟩, fun x H3 y => ?_⟩
      obtain ⟨rfl, y⟩ := y
      have := Option.some.inj ((y _ (SqL.of h1')).symm.trans q1)
      subst this
      exact ⟨Z2, g, Ext.refl hz, q2⟩
    | none =>
      dsimp only
      cases et : tupO o with
      | none => exact fun h => h.elim
      | some os =>
        intro h v H1 Z1 g1 e1 o1 _
        obtain ⟨a, vs, rfl, h1, h2⟩ := o1.tup et
        refine .inr ⟨a, rfl, ⟨vs, h1⟩, h _ H1 Z1 e1 fun i H2 Z2 _ he hz => ?_⟩
        have ex := he id
        have h1' := SqT.kp ex.kp h1
        have h2' := Owns.ext ex h2
        refine ⟨fun o e => ?_, fun e => ⟨vs, h1', by rw [h2.length, e]; exact Nat.le_refl _⟩⟩
        obtain ⟨v, g, q1, q2, _⟩ := Owns.get h2' e
        refine ⟨⟨vs, v, h1', q1⟩, fun x H3 y => ?_⟩
        obtain ⟨rfl, y⟩ := y
        have := Option.some.inj ((y _ h1').symm.trans q1)
        subst this
        exact ⟨Z2, g, Ext.refl hz, q2⟩
theorem upTo_len (n : Nat) (lo : Int) : (upTo n lo).length = n := by simp [upTo]
theorem upTo_get {n i : Nat} {lo : Int} {o : O} (h : (upTo n lo)[i]? = some o) : i < n ∧ o = .z (.int (lo + (i : Int))) := by
  have hi : i < n := by
    have := (List.getElem?_eq_some_iff.mp h).1
    rw [upTo_len] at this
    exact this
  refine ⟨hi, ?_⟩
  unfold upTo at h
  rw [List.getElem?_map, List.getElem?_range hi] at h
  exact (Option.some.inj h).symm
theorem feed_r {n : Nat} {lo : Int} : Feed K True (Itr lo n) (upTo n lo) H Z := fun i H2 Z2 _ _ hz => by
  refine ⟨fun o e => ?_, fun e => by rw [e, upTo_len]; exact Nat.le_refl _⟩
  obtain ⟨h1, rfl⟩ := upTo_get e
  refine ⟨h1, fun x H3 y => ?_⟩
  obtain ⟨rfl, rfl⟩ := y
  exact ⟨Z2, [], Ext.refl hz, rfl, rfl⟩
theorem far_iff {i : Int} : far i = true ↔ -(2 ^ 62) ≤ i ∧ i < 2 ^ 62 := by unfold far; exact decide_eq_true_iff
theorem pi_r1 {p : Pos} (hg : Gl X "range") (hm : X.mg "range" = none) (hs : starEach [a] X.env = [(false, eval a X.env)]) (ha : PuB X W a fa) : PIX X W True tg (.Call (.Name "range" p) [a] [] pos) (iR1 fa) := by
  obtain ⟨t, pa, q⟩ := ha.ex
  refine ⟨_, pi_range1 hg hm (pa_cons pa pa_nil hs) hs, ?_⟩
  intro H0 Z0 H Z σ ρ S R h
  show t σ H fun x H1 => ∃ j : Int, [x] = [.int j] ∧ -(2 ^ 62) ≤ j ∧ j < 2 ^ 62 ∧ R (Itr 0 j.toNat) H1
  refine q S _ ?_
  revert h
  unfold iR1 PostE PostI
  cases fa ρ with
  | bad => exact id
  | err cn d => exact id
  | ok o =>
    rw [Res.bind_ok]
    cases o with
    | z d =>
      cases d with
      | int j =>
        dsimp only
        by_cases hj : far j = true
        · rw [if_pos hj]
          intro h v H1 Z1 g1 e1 o1 _
          have := far_iff.mp hj
          exact ⟨j, by rw [show v = .int j from o1.2], this.1, this.2, h _ H1 Z1 e1 feed_r⟩
        · rw [if_neg hj]
          exact fun h => h.elim
      | _ => exact fun h => h.elim
    | _ => exact fun h => h.elim
theorem pi_r2 {p : Pos} (hg : Gl X "range") (hm : X.mg "range" = none) (hs : starEach [a, b] X.env = [(false, eval a X.env), (false, eval b X.env)]) (hs2 : starEach [b] X.env = [(false, eval b X.env)]) (ha : PuB X W a fa) (hb : PuB X W b fb) :
    PIX X W True tg (.Call (.Name "range" p) [a, b] [] pos) (iR2 fa fb) := by
  obtain ⟨t, pa, q⟩ := ha.ex
  obtain ⟨u, pb, q'⟩ := hb.ex
  refine ⟨_, pi_range2 hg hm (pa_cons pa (pa_cons pb pa_nil hs2) (by rw [hs, hs2])) hs hs2, ?_⟩
  intro H0 Z0 H Z σ ρ S R h
  show t σ H fun x H1 => u σ H1 fun y H2 => ∃ i j : Int, [x, y] = [.int i, .int j] ∧ (-(2 ^ 62) ≤ i ∧ i < 2 ^ 62 ∧ -(2 ^ 62) ≤ j ∧ j < 2 ^ 62) ∧ R (Itr i (j - i).toNat) H2
  refine q S _ ?_
  revert h
  unfold iR2 PostE PostI
  cases fa ρ with
  | bad => exact id
  | err cn d => exact id
  | ok o =>
    rw [Res.bind_ok]
    intro h v H1 Z1 g1 e1 o1 _
    refine q' (S.grow e1) _ ?_
    revert h
    unfold PostE
    cases fb ρ with
    | bad => exact id
    | err cn d => exact fun h => ErrP.grow h e1
    | ok o' =>
      rw [Res.bind_ok]
      cases o with
      | z d =>
        cases d with
        | int i =>
          cases o' with
          | z d' =>
            cases d' with
            | int j =>
              dsimp only
              by_cases hj : (far i && far j) = true
              · rw [if_pos hj]
                rw [Bool.and_eq_true] at hj
                intro h w H2 Z2 g2 e2 o2 _
                have h1 := far_iff.mp hj.1
                have h2 := far_iff.mp hj.2
                exact ⟨i, j, by rw [show v = .int i from o1.2, show w = .int j from o2.2], ⟨h1.1, h1.2, h2.1, h2.2⟩, h _ H2 Z2 (e1.trans e2) feed_r⟩
              · rw [if_neg hj]
                exact fun h => h.elim
            | _ => exact fun h => h.elim
          | _ => exact fun h => h.elim
        | _ => exact fun h => h.elim
      | _ => exact fun h => h.elim
end

/-! ### targets -/
section
variable {K : PySem.W.Frag} {H0 H H' : Hp} {Z0 Z Z' : Zs} {σ : St} {ρ : Env} {o : O} {v : V}
/-- a new thing beside the slots -/
theorem SR.push (S : SR K H0 Z0 H Z σ ρ) (e : Ext H Z H' Z') {g : List Addr} (ho : Own H' Z' K o v g) (n : New H Z' g) : SR K H0 Z0 H' Z' (some v :: σ) (some (.w o) :: ρ) := by
  obtain ⟨fp, h, nd, k⟩ := S.own
  have dm := Sls.dom h
  refine ⟨S.ext.trans e, g ++ fp, ⟨_, _, _, _, rfl, rfl, ⟨v, rfl, ho⟩, Sls.frame e.kp (fun a ha => ?_) h⟩, List.nodup_append.mpr ⟨n.1, nd, fun a ha b hb q => ?_⟩, fun a ha => ?_⟩
  · obtain ⟨vs, q⟩ := dm a ha
    rw [q]; exact e.keep _ _ q
  · obtain ⟨vs, q2⟩ := dm b hb
    rw [← q, (n.2 a ha).2] at q2; cases q2
  · rcases List.mem_append.mp ha with ha | ha
    · exact ⟨(n.2 a ha).1, S.ext.back (n.2 a ha).2⟩
    · refine ⟨fun z => ?_, (k a ha).2⟩
      rcases e.zn a z with z | z
      · exact (k a ha).1 z
      · obtain ⟨vs, q⟩ := dm a ha
        rw [q] at z; cases z
/-- what stands beside the slots is stored -/
theorem SR.pop (S : SR K H0 Z0 H Z (some v :: σ) (some (.w o) :: ρ)) (i : Nat) : SR K H0 Z0 H Z (σ.set i (some v)) (ρ.set i (some (.w o))) := by
  obtain ⟨fp, ⟨w, τ, f, g, e1, rfl, ⟨v', e2, h1⟩, h2⟩, nd, k⟩ := S.own
  cases e1
  cases e2
  by_cases hi : i < ρ.length
  · obtain ⟨w, f1, g1, g2, e1, e2, rfl, q⟩ := Sls.part h2 (List.getElem?_eq_getElem hi)
    refine ⟨S.ext, g1 ++ f ++ g2, q H Z _ _ f Kp.refl (fun _ _ => rfl) ⟨v, rfl, h1⟩, ?_, fun a ha => k a ?_⟩
    · rw [List.nodup_append] at nd
      obtain ⟨n1, n2, n3⟩ := nd
      rw [List.append_assoc, List.nodup_append] at n2
      obtain ⟨m1, m2, m3⟩ := n2
      rw [List.nodup_append] at m2
      rw [List.append_assoc]
      refine List.nodup_append.mpr ⟨m1, List.nodup_append.mpr ⟨n1, m2.2.1, fun a ha b hb => n3 a ha b (List.mem_append_right _ hb)⟩, fun a ha b hb => ?_⟩
      rcases List.mem_append.mp hb with hb | hb
      · exact fun z => n3 b hb a (List.mem_append_left _ (List.mem_append_left _ ha)) z.symm
      · exact m3 a ha b (List.mem_append_right _ hb)
    · rcases List.mem_append.mp ha with ha | ha
      · rcases List.mem_append.mp ha with ha | ha
        · exact List.mem_append_right _ (List.mem_append_left _ (List.mem_append_left _ ha))
        · exact List.mem_append_left _ ha
      · exact List.mem_append_right _ (List.mem_append_right _ ha)
  · have hl := Sls.len h2
    rw [List.set_eq_of_length_le (by omega), List.set_eq_of_length_le (by omega)]
    exact ⟨S.ext, g, h2, (List.nodup_append.mp nd).2.1, fun a ha => k a (List.mem_append_right _ ha)⟩
/-- a tuple's parts beside the slots -/
theorem SR.parts (S : SR K H0 Z0 H Z (some v :: σ) (some (.w o) :: ρ)) {os : List O} (e : tupO o = some os) : ∃ a vs, v = .ref a ∧ SqT K H a vs ∧ vs.length = os.length ∧ SR K H0 Z0 H Z (vs.map some ++ σ) (os.map (fun o => some (.w o)) ++ ρ) := by
  obtain ⟨fp, ⟨w, τ, f, g, e1, rfl, ⟨v', e2, h1⟩, h2⟩, nd, k⟩ := S.own
  cases e1
  cases e2
  obtain ⟨a, vs, rfl, q1, q2⟩ := h1.tup e
  refine ⟨a, vs, rfl, q1, q2.length, S.ext, f ++ g, ?_, nd, k⟩
  clear k nd S e q1 h1
  induction os generalizing vs f with
  | nil => rw [q2.1, q2.2]; exact h2
  | cons o os ih =>
    obtain ⟨v, r, f1, g1, rfl, rfl, h3, h4, _⟩ := q2
    exact ⟨some v, r.map some ++ σ, f1, g1 ++ g, rfl, by rw [List.append_assoc], ⟨v, rfl, h3⟩, ih _ _ h4⟩
/-- what is not wanted goes -/
theorem SR.drop (S : SR K H0 Z0 H Z (some v :: σ) (some (.w o) :: ρ)) : SR K H0 Z0 H Z σ ρ := by
  obtain ⟨fp, ⟨w, τ, f, g, e1, rfl, h1, h2⟩, nd, k⟩ := S.own
  cases e1
  exact ⟨S.ext, g, h2, (List.nodup_append.mp nd).2.1, fun a ha => k a (List.mem_append_right _ ha)⟩
end
/-- a target that stores what is one's own; tau, theta: what else lies beside -/
structure PuG (X : Cx) (tg : Expr) (ga : EG) : Prop where
  ex : ∃ t : TG, PG X tg t ∧ ∀ {H0 Z0 H Z σ ρ}, ∀ (τ : St) (θ : Env) o v ρ', τ.length = θ.length → SR X.K H0 Z0 H Z (some v :: (τ ++ σ)) (some (.w o) :: (θ ++ ρ)) → ga o ρ = some ρ' → ∀ Q, (∀ σ', SR X.K H0 Z0 H Z (τ ++ σ') (θ ++ ρ') → Q σ' H) → t v σ H Q
structure PuGs (X : Cx) (tgs : List Expr) (gs : List EG) : Prop where
  ex : ∃ t : TGs, PGs X tgs t ∧ ∀ {H0 Z0 H Z σ ρ}, ∀ (τ : St) (θ : Env) os vs ρ', τ.length = θ.length → vs.length = os.length → SR X.K H0 Z0 H Z (vs.map some ++ (τ ++ σ)) (os.map (fun o => some (.w o)) ++ (θ ++ ρ)) → tTs gs os ρ = some ρ' → ∀ Q, (∀ σ', SR X.K H0 Z0 H Z (τ ++ σ') (θ ++ ρ') → Q σ' H) → t vs σ H Q
section
variable {X : Cx} {pos : Pos} {tg : Expr} {tgs : List Expr} {g : EG} {gs : List EG}
theorem set_app {α : Type} (a b : List α) (i : Nat) (x : α) : (a ++ b).set (a.length + i) x = a ++ b.set i x := by
  rw [List.set_append_right _ _ (by omega), Nat.add_sub_cancel_left]
theorem pg_n (i : Nat) {x : Str} (hN : X.N.Nodup) (hi : X.N[i]? = some x) (hx : Loc X.env.scope x) (hf : X.fn x = true ∨ X.env.scope.names.lookup x = some .local) : PuG X (.Name x pos) (tN i) := by
  refine ⟨_, pg_name hN hi hx hf, ?_⟩
  intro H0 Z0 H Z σ ρ τ θ o v ρ' hl S e Q h
  cases e
  have q := S.pop (θ.length + i)
  rw [set_app, ← hl, set_app] at q
  exact h _ q
theorem pgs_nil' : PuGs X [] [] := by
  refine ⟨_, pgs_nil, ?_⟩
  intro H0 Z0 H Z σ ρ τ θ os vs ρ' _ hl S e Q h
  cases os with
  | nil =>
    cases vs with
    | nil =>
      cases e
      exact ⟨rfl, h σ S⟩
    | cons _ _ => cases hl
  | cons _ _ => cases e
theorem pgs_cons' (h : PuG X tg g) (hs : PuGs X tgs gs) (ha : (assignEach (tg :: tgs) X.env).map (·.2) = assign tg X.env :: (assignEach tgs X.env).map (·.2)) : PuGs X (tg :: tgs) (g :: gs) := by
  obtain ⟨t, p, q⟩ := h.ex
  obtain ⟨u, p', q'⟩ := hs.ex
  refine ⟨_, pgs_cons p p' ha, ?_⟩
  intro H0 Z0 H Z σ ρ τ θ os vs ρ' hl hlv S e Q k
  cases os with
  | nil => cases e
  | cons o os =>
    cases vs with
    | nil => cases hlv
    | cons v vs =>
      refine ⟨v, vs, rfl, ?_⟩
      have hl' : vs.length = os.length := by simpa using hlv
      rw [tTs] at e
      cases e1 : g o ρ with
      | none => rw [e1] at e; cases e
      | some ρ1 =>
        rw [e1] at e
        refine q (vs.map some ++ τ) (os.map (fun o => some (.w o)) ++ θ) o v ρ1 (by simp [hl, hl']) (by rw [List.append_assoc, List.append_assoc]; exact S) e1 _ fun σ1 S1 => ?_
        rw [List.append_assoc, List.append_assoc] at S1
        exact q' τ θ os vs ρ' hl hl' S1 e Q k
theorem pg_t {es : List Expr} {k n : Nat} (hc : X.calm = true) (h : PuGs X es gs) (hn : (assignEach es X.env).length = n) (hst : (assignEach es X.env).findIdx? (·.1) = none) (hg : gs.length = n) : PuG X (.Tuple es k pos) (tT gs) := by
  obtain ⟨t, p, q⟩ := h.ex
  refine ⟨_, pg_tup hc p hn hst, ?_⟩
  intro H0 Z0 H Z σ ρ τ θ o v ρ' hl S e Q k
  unfold tT at e
  cases et : tupO o with
  | none => rw [et] at e; cases e
  | some os =>
    rw [et] at e
    obtain ⟨a, vs, rfl, h1, h2, S1⟩ := S.parts et
    refine ⟨a, vs, rfl, h1, ?_, q τ θ os vs ρ' hl h2 S1 e Q k⟩
    rw [h2, ← hg]
    have key : ∀ (gs : List EG) (os : List O) (ρ ρ' : Env), tTs gs os ρ = some ρ' → os.length = gs.length := by
      intro gs
      induction gs with
      | nil =>
        intro os ρ ρ' e
        cases os with
        | nil => rfl
        | cons _ _ => cases e
      | cons g gs ih =>
        intro os ρ ρ' e
        cases os with
        | nil => cases e
        | cons o os =>
          rw [tTs] at e
          cases e1 : g o ρ with
          | none => rw [e1] at e; cases e
          | some ρ1 =>
            rw [e1] at e
            rw [List.length_cons, List.length_cons, ih os ρ1 ρ' e]
    exact key gs os ρ ρ' e
end
/-! ### statements that store -/
section
variable {X : Cx} {W : WX} {own : Prop} {e a b c tg : Expr} {f fa fb fc : EV} {pos : Pos} {H0 H H' : Hp} {Z0 Z Z' : Zs} {σ : St} {ρ : Env} {ta tb : EB} {st : Stmt} {sts sts' : List Stmt} {fs gs : ES} {D : Ends} {g : EG}
theorem ps_asg' (hs : swapsWithSole [tg] e pos.line X.env = pure false) (hw : swappedStores [tg] e X.env = pure none) (h1 : (assignEach [tg] X.env).map (·.2) = [assign tg X.env]) (he : PuE X W e f) (hg : PuG X tg g) : PuS X W (.Assign [tg] e pos) (sAsg f g) := by
  obtain ⟨t, p, q⟩ := he.ex
  obtain ⟨u, p', q'⟩ := hg.ex
  refine ⟨_, ps_asg p p' hs hw h1, ?_⟩
  intro H0 Z0 H Z σ ρ S D h
  unfold tAsg
  refine q S _ ?_
  revert h
  unfold sAsg PostE Res.out
  cases f ρ with
  | bad => exact id
  | err cn d => exact fun h => PostS.errE S h
  | ok o =>
    dsimp only
    cases eg : g o ρ with
    | none => exact fun h => h.elim
    | some ρ' =>
      intro h v H1 Z1 g1 e1 o1 n1
      exact q' [] [] o v ρ' rfl (S.push e1 o1 (n1 trivial)) eg _ fun σ' S' => h σ' H1 Z1 e1.kp S'
/-- x op= e, of whole numbers -/
theorem ps_aug' (i : Nat) {x : Str} {op : Operator} {p' : Pos} {k : Int → Int → Int} (hN : X.N.Nodup) (hi : X.N[i]? = some x) (hx : Loc X.env.scope x) (hf : X.fn x = true ∨ X.env.scope.names.lookup x = some .local) (ho : PIp X op (ipI k)) (he : PuB X W e f) :
    PuS X W (.AugAssign (.Name x p') op e pos) (sAug i k f) := by
  obtain ⟨t, p, q⟩ := he.ex
  refine ⟨_, ps_aug hN hi hx p ho hf, ?_⟩
  intro H0 Z0 H Z σ ρ S D h
  unfold sAug at h
  revert h
  split
  · rename_i a hr
    intro h
    obtain ⟨v, g, e1, e2⟩ := S.getW hr
    have ev : v = .int a := e2.2
    subst ev
    refine ⟨.int a, e1, q S _ ?_⟩
    revert h
    unfold PostE Res.out
    cases f ρ with
    | bad => exact id
    | err cn d => exact fun h => PostS.errE S h
    | ok o =>
      cases o with
      | z d =>
        cases d with
        | int b =>
          intro h w H1 Z1 g1 e1 o1 _
          have ew : w = .int b := o1.2
          subst ew
          exact ⟨a, b, rfl, rfl, h _ H1 Z1 e1.kp (S.put e1 (o := .z (.int (k a b))) (f' := []) ⟨rfl, rfl⟩ List.nodup_nil fun _ h => by cases h)⟩
        | _ => exact fun h => h.elim
      | _ => exact fun h => h.elim
  · exact fun h => h.elim
/-- a list of one's own at a slot may change -/
theorem SR.mutL {K : PySem.W.Frag} (S : SR K H0 Z0 H Z σ ρ) {i : Nat} {os : List O} (hr : ρ[i]? = some (some (.w (.l os)))) : ∃ (a : Addr) (vs : List V) (g : List Addr), σ[i]? = some (some (.ref a)) ∧ H a = some (.lst vs) ∧ Owns H Z K os vs g ∧ g.Nodup ∧
    ∀ (H1 : Hp) (Z1 : Zs), Ext H Z H1 Z1 → ∀ (os' : List O) (vs' : List V) (g' : List Addr), Owns H1 Z1 K os' vs' g' → g'.Nodup → (∀ b ∈ g', b ∈ g ∨ (H b = none ∧ ¬ Z1 b)) →
      SR K H0 Z0 (upd H1 a (.lst vs')) Z1 σ (ρ.set i (some (.w (.l os')))) ∧ Kp H Z (upd H1 a (.lst vs')) Z1 := by
  obtain ⟨fp, hs, nd, k⟩ := S.own
  obtain ⟨w0, f0, l, r, e1, ⟨v, rfl, e2⟩, rfl, q2⟩ := Sls.part hs hr
  obtain ⟨a, vs, g, rfl, rfl, h1, h2⟩ := e2
  have dm := Sls.dom hs
  have mem : ∀ b, b ∈ (a :: g) → b ∈ l ++ (a :: g) ++ r := fun b hb => List.mem_append_left _ (List.mem_append_right _ hb)
  have meml : ∀ b, b ∈ l → b ∈ l ++ (a :: g) ++ r := fun b hb => List.mem_append_left _ (List.mem_append_left _ hb)
  have memr : ∀ b, b ∈ r → b ∈ l ++ (a :: g) ++ r := fun b hb => List.mem_append_right _ hb
  have nd' := nd
  rw [List.append_assoc, List.nodup_append] at nd'
  obtain ⟨n1, n2, n3⟩ := nd'
  rw [List.nodup_append] at n2
  obtain ⟨m1, m2, m3⟩ := n2
  have na := List.nodup_cons.mp m1
  refine ⟨a, vs, g, e1, h1, h2, na.2, fun H1 Z1 ex os' vs' g' ho nd2 hn => ?_⟩
  have ha1 := ex.keep _ _ h1
  have nz : ∀ b, b ∈ l ++ (a :: g) ++ r → ¬ Z1 b := fun b hb z => by
    rcases ex.zn b z with z | z
    · exact (k b hb).1 z
    · obtain ⟨vs, q⟩ := dm b hb
      rw [q] at z; cases z
  have ke : ∀ b, b ∈ l ++ (a :: g) ++ r → H1 b = H b := fun b hb => by
    obtain ⟨ws, q⟩ := dm b hb
    rw [q]; exact ex.keep _ _ q
  have kp1 : Kp H1 Z1 (upd H1 a (.lst vs')) Z1 := ⟨fun _ z => z, fun b u z e => by
    have nb : b ≠ a := fun q => nz a (mem a List.mem_cons_self) (q ▸ z)
    rw [upd_ne nb]; exact e, fun b xs e => by
    have nb : b ≠ a := fun q => by
      rw [q] at e
      rcases e with e | ⟨_, e⟩ <;> (rw [ha1] at e; cases e)
    rcases e with e | ⟨u, e⟩
    · exact .inl (by rw [upd_ne nb]; exact e)
    · exact .inr ⟨u, by rw [upd_ne nb]; exact e⟩, fun b u x e => by
    have nb : b ≠ a := fun q => by
      rw [q, ha1] at e; cases e
    rw [upd_ne nb]; exact e⟩
  have na' : a ∉ g' := fun z => by
    rcases hn a z with q | q
    · exact na.1 q
    · rw [q.1] at h1; cases h1
  have ho' : Owns (upd H1 a (.lst vs')) Z1 K os' vs' g' := Owns.frame kp1 os' vs' g' (fun b hb => by
    have nb : b ≠ a := fun q => na' (q ▸ hb)
    rw [upd_ne nb]) ho
  have q3 := q2 (upd H1 a (.lst vs')) Z1 (some (.w (.l os'))) (some (.ref a)) (a :: g') (ex.kp.trans kp1) (fun b hb => by
    have nb : b ≠ a := fun q => by
      subst q
      rcases hb with hb | hb
      · exact n3 b hb b (List.mem_append_left _ List.mem_cons_self) rfl
      · exact m3 b List.mem_cons_self b hb rfl
    rw [upd_ne nb]
    exact ke b (hb.elim (meml b) (memr b))) ⟨.ref a, rfl, a, vs', g', rfl, rfl, upd_same, ho'⟩
  have hσ : σ.set i (some (.ref a)) = σ := by
    apply List.ext_getElem?
    intro j
    rw [List.getElem?_set]
    split
    · rename_i hj
      subst hj
      have hi : i < σ.length := (List.getElem?_eq_some_iff.mp e1).1
      rw [e1]
      simp [hi]
    · rfl
  rw [hσ] at q3
  have far : ∀ b ∈ g', ∀ c, c ∈ l ∨ c ∈ r → b ≠ c := fun b hb c hc q => by
    subst q
    rcases hn b hb with z | z
    · rcases hc with hc | hc
      · exact n3 b hc b (List.mem_append_left _ (List.mem_cons_of_mem _ z)) rfl
      · exact m3 b (List.mem_cons_of_mem _ z) b hc rfl
    · obtain ⟨ws, q⟩ := dm b (hc.elim (meml b) (memr b))
      rw [z.1] at q; cases q
  refine ⟨⟨⟨fun b u e => ?_, fun b z => ex.zz b (S.ext.zz b z), fun b z => ?_, fun b z => ?_⟩, _, q3, ?_, fun b hb => ?_⟩, ex.kp.trans kp1⟩
  · have nb : b ≠ a := fun q => by
      rw [q, (k a (mem a List.mem_cons_self)).2] at e; cases e
    rw [upd_ne nb]
    exact ex.keep _ _ (S.ext.keep _ _ e)
  · rcases ex.zn b z with z | z
    · exact S.ext.zn b z
    · exact .inr (S.ext.back z)
  · by_cases q : b = a
    · rw [q, upd_same]; exact fun z => by cases z
    · rw [upd_ne q]; exact ex.zd b z
  · rw [List.append_assoc]
    refine List.nodup_append.mpr ⟨n1, List.nodup_append.mpr ⟨List.nodup_cons.mpr ⟨na', nd2⟩, m2, fun b hb c hc => ?_⟩, fun b hb c hc => ?_⟩
    · rcases List.mem_cons.mp hb with hb | hb
      · subst hb; exact m3 b List.mem_cons_self c hc
      · exact far b hb c (.inr hc)
    · rcases List.mem_append.mp hc with hc | hc
      · rcases List.mem_cons.mp hc with hc | hc
        · subst hc; exact n3 b hb c (List.mem_append_left _ List.mem_cons_self)
        · exact fun q => far c hc b (.inl hb) q.symm
      · exact n3 b hb c (List.mem_append_right _ hc)
  · rcases List.mem_append.mp hb with hb | hb
    · rcases List.mem_append.mp hb with hb | hb
      · exact ⟨nz b (meml b hb), (k b (meml b hb)).2⟩
      · rcases List.mem_cons.mp hb with hb | hb
        · subst hb; exact ⟨nz b (mem b List.mem_cons_self), (k b (mem b List.mem_cons_self)).2⟩
        · rcases hn b hb with z | z
          · exact ⟨nz b (mem b (List.mem_cons_of_mem _ z)), (k b (mem b (List.mem_cons_of_mem _ z))).2⟩
          · exact ⟨z.2, S.ext.back z.1⟩
    · exact ⟨nz b (memr b hb), (k b (memr b hb)).2⟩
/-- x.append(e) -/
theorem ps_app (i : Nat) {x : Str} {p1 p2 p3 : Pos} (hN : X.N[i]? = some x) (hv : Vis X.env.scope x) (hd : (x == ("__debug__" : Str)) = false) (hcd : (x == ("__classdict__" : Str)) = false)
    (hs : swapsWith (.Call (.Attribute (.Name x p1) "append" p2) [e] [] p3) none pos.line X.env = pure false)
    (hbase : attributeBase (.Name x p1) "append" X.env (eval (.Name x p1) X.env) = eval (.Name x p1) X.env)
    (hfew : ((backTo p3 (starEach [e] X.env)).all (fun x => !x.1) && (backToKw p3 (keywordEach [] X.env)).all (fun x => x.1.isSome) && decide ([e].length + ([] : List Keyword).length + (if ([] : List Keyword).isEmpty then 0 else 1) < 30)) = true)
    (hline : (p2.endLine == p3.line) = true) (hst : starEach [e] X.env = (false, eval e X.env) :: starEach [] X.env) (hplain : (backTo p3 (starEach [] X.env)).any (·.1) = false) (he : PuE X W e f) :
    PuS X W (.Expr (.Call (.Attribute (.Name x p1) "append" p2) [e] [] p3) pos) (sApp i f) := by
  obtain ⟨t, p, q⟩ := he.ex
  refine ⟨_, ps_expr (pe_bm PySem.F.plainAttrs_list PySem.F.slot_list_append PySem.F.type_list_append mt_append (pe_var (i := i) hN hv hd hcd) (pa_cons p pa_nil hst) hbase hfew hline hst hplain) hs, ?_⟩
  intro H0 Z0 H Z σ ρ S D h
  show tVar i σ H fun x H1 => tyV X.K "list" x H1 ∧ t σ H1 fun y H2 => rAppend x [y] H2 fun _ H3 => D.nx σ H3
  unfold sApp at h
  -- the name holds a list of one's own
  split at h
  · rename_i os hr
    obtain ⟨a, vs, g, e1, h1, h2, nd, mu⟩ := S.mutL hr
    refine ⟨.ref a, e1, .inl ⟨rfl, vs, SqL.of h1⟩, q S _ ?_⟩
    revert h
    unfold PostE Res.out
    cases f ρ with
    | bad => exact id
    | err cn d => exact fun h => PostS.errE S h
    | ok o =>
      dsimp only
      by_cases hc : os.length < lineMax ∧ nS o = true
      · rw [if_pos hc]
        intro h w H1 Z1 f' ex ow n
        obtain ⟨S', k'⟩ := mu H1 Z1 ex (os ++ [o]) (vs ++ [w]) (g ++ f') (Owns.app (h2.ext ex) ⟨w, [], f', [], rfl, by simp, ow, ⟨rfl, rfl⟩, hc.2⟩) (List.nodup_append.mpr ⟨nd, (n trivial).1, fun b hb c hc q => by
            obtain ⟨ws, z⟩ := Owns.dom _ _ _ h2 b hb
            rw [q, ((n trivial).2 c hc).2] at z; cases z⟩) fun b hb => by
          rcases List.mem_append.mp hb with hb | hb
          · exact .inl hb
          · exact .inr ⟨((n trivial).2 b hb).2, ((n trivial).2 b hb).1⟩
        exact ⟨a, vs, w, rfl, rfl, ex.keep _ _ h1, by rw [h2.length, ← line_eq]; exact hc.1, h σ _ Z1 k' S'⟩
      · rw [if_neg hc]
        exact fun h => h.elim
  · exact h.elim
end

/-! ### for -/
section
variable {X : Cx} {W : WX} {own : Prop} {e a b c tg it : Expr} {f fa fb fc : EV} {pos : Pos} {H0 H H' : Hp} {Z0 Z Z' : Zs} {σ : St} {ρ : Env} {ta tb : EB} {st : Stmt} {sts sts' body : List Stmt} {fs gs : ES} {D : Ends} {g : EG} {fi : EI}
theorem ps_for' (hp : PassesOwn (model X.prog X.w) X.A X.env X.xe) (hc : X.calm = true) (hs : ∀ x, foldedSetIterable it X.env x = pure x) (hi : PIX X W True tg it fi) (hg : PuG X tg g) (hb : PuSs X W body fs) : PuS X W (.For tg it body [] pos) (sFor fi g fs) := by
  obtain ⟨w, p, q⟩ := hi.ex
  obtain ⟨u, p1, q1⟩ := hg.ex
  obtain ⟨t, p2, q2⟩ := hb.ex
  refine ⟨_, ps_for hp hc p p1 p2 hs, ?_⟩
  intro H0 Z0 H Z σ ρ S D h
  unfold tFor
  refine q S _ ?_
  revert h
  unfold sFor PostI Res.out
  cases fi ρ with
  | bad => exact id
  | err cn d => exact fun h => PostS.errE S h
  | ok items =>
    dsimp only
    cases ez : allZ items with
    | none => exact fun h => h.elim
    | some ds =>
      have eI := allZ_eq ez
      subst eI
      intro h J H1 Z1 ex feed
      refine ⟨fun i m σ' H' => m = ds.length - i ∧ i ≤ ds.length ∧ ∃ Z' ρ', Kp H1 Z1 H' Z' ∧ SR X.K H0 Z0 H' Z' σ' ρ' ∧ PostS X W H0 Z0 H' Z' D (forGo g fs ((ds.drop i).map .z) ρ'), ⟨ds.length, by simp, Nat.zero_le _, Z1, ρ, Kp.refl, S.grow ex, PostS.grow h ex.kp⟩, ?_⟩
      rintro i m σ' H' ⟨rfl, hi, Z', ρ', kp, S', h'⟩
      obtain ⟨fd1, fd2⟩ := feed i H' Z' (fun _ => kp) (fun n => absurd trivial n) S'.ext.zd
      by_cases hlt : i < ds.length
      · have eg : (ds.map O.z)[i]? = some (.z ds[i]) := by rw [List.getElem?_map, List.getElem?_eq_getElem hlt]; rfl
        obtain ⟨go, yl⟩ := fd1 _ eg
        rw [List.drop_eq_getElem_cons hlt, List.map_cons, forGo] at h'
        cases e1 : g (.z ds[i]) ρ' with
        | none => rw [e1] at h'; exact h'.elim
        | some ρ1 =>
          rw [e1] at h'
          dsimp only at h'
          refine .inr ⟨go, fun σ2 H2 => ∃ m', m' < ds.length - i ∧ m' = ds.length - (i + 1) ∧ i + 1 ≤ ds.length ∧ ∃ Z2 ρ2, Kp H1 Z1 H2 Z2 ∧ SR X.K H0 Z0 H2 Z2 σ2 ρ2 ∧ PostS X W H0 Z0 H2 Z2 D (forGo g fs ((ds.drop (i + 1)).map .z) ρ2), fun _ _ h => h, fun x H3 y => ?_⟩
          obtain ⟨Z3, gx, ex3, ox⟩ := yl x H3 y
          have ogx : gx = [] := ox.1
          subst ogx
          refine q1 [] [] (.z ds[i]) x ρ1 rfl (S'.push ex3 ox New.nil) e1 _ fun σ2 S2 => ?_
          refine q2 (show SR X.K H0 Z0 H3 Z3 σ2 ρ1 from S2) _ ?_
          have nxt : ∀ {ρ2 : Env}, PostS X W H0 Z0 H' Z' D (forGo g fs ((ds.drop (i + 1)).map .z) ρ2) → ∀ σ3 H4 Z4, Kp H3 Z3 H4 Z4 → SR X.K H0 Z0 H4 Z4 σ3 ρ2 → ∃ m', m' < ds.length - i ∧ m' = ds.length - (i + 1) ∧ i + 1 ≤ ds.length ∧ ∃ Z2 ρ2, Kp H1 Z1 H4 Z2 ∧ SR X.K H0 Z0 H4 Z2 σ3 ρ2 ∧ PostS X W H0 Z0 H4 Z2 D (forGo g fs ((ds.drop (i + 1)).map .z) ρ2) :=
            fun {ρ2} h2 σ3 H4 Z4 k4 S4 => ⟨_, by omega, rfl, hlt, Z4, ρ2, (kp.trans ex3.kp).trans k4, S4, PostS.grow h2 (ex3.kp.trans k4)⟩
          revert h'
          cases fs ρ1 with
          | nx ρ2 => exact fun h2 => nxt h2
          | ct ρ2 => exact fun h2 => nxt h2
          | bk ρ2 => exact fun h2 σ3 H4 Z4 k4 S4 => h2 σ3 H4 Z4 (ex3.kp.trans k4) S4
          | rt o => exact fun h2 => h2
          | err cn d ρ2 => exact fun h2 => PostS.grow (r := .err cn d ρ2) h2 ex3.kp
          | bad => exact fun h2 => h2
      · have ei : i = ds.length := by omega
        subst ei
        rw [List.drop_length] at h'
        exact .inl ⟨fd2 (by rw [List.length_map]), h' σ' H' Z' Kp.refl S'⟩
end

/-! ### comprehensions -/
/-- a target of a comprehension: what is not data is lent; vs: the slots that it stores -/
structure PuL (X : Cx) (tg : Expr) (ga : EG) (vs : List Nat) : Prop where
  ex : ∃ t : TG, PG X tg t ∧ ∀ {H0 Z0 H Z σ ρ}, SR X.K H0 Z0 H Z σ ρ → ∀ o v g ρ', Own H0 Z0 X.K o v g → ga o ρ = some ρ' → ∀ Q, (∀ σ', SR X.K H0 Z0 H Z σ' ρ' → σ'.length = σ.length → (∀ j, j ∉ vs → σ'[j]? = σ[j]?) → Q σ' H) → t v σ H Q
structure PuLs (X : Cx) (tgs : List Expr) (gs : List EG) (vs : List Nat) : Prop where
  ex : ∃ t : TGs, PGs X tgs t ∧ ∀ {H0 Z0 H Z σ ρ}, SR X.K H0 Z0 H Z σ ρ → ∀ os ws g ρ', Owns H0 Z0 X.K os ws g → tTs gs os ρ = some ρ' → ∀ Q, (∀ σ', SR X.K H0 Z0 H Z σ' ρ' → σ'.length = σ.length → (∀ j, j ∉ vs → σ'[j]? = σ[j]?) → Q σ' H) → t ws σ H Q
section
variable {K : PySem.W.Frag} {H0 H H' : Hp} {Z0 Z Z' : Zs} {σ : St} {ρ : Env} {o : O} {v : V}
theorem SR.putL (S : SR K H0 Z0 H Z σ ρ) {g : List Addr} (h : Own H0 Z0 K o v g) (i : Nat) : SR K H0 Z0 H Z (σ.set i (some v)) (ρ.set i (some (lent o))) := by
  have main : SlOk H0 Z0 H Z K (some (lent o)) (some v) [] := by
    cases o with
    | z d => exact ⟨v, rfl, rfl, RZ.kp S.ext.kp d v h.2⟩
    | _ => exact ⟨rfl, v, g, rfl, h⟩
  obtain ⟨fp, hs, nd, k⟩ := S.own
  by_cases hi : i < ρ.length
  · obtain ⟨w, f, g1, g2, e1, e2, rfl, q⟩ := Sls.part hs (List.getElem?_eq_getElem hi)
    refine ⟨S.ext, g1 ++ [] ++ g2, q H Z _ _ [] Kp.refl (fun _ _ => rfl) main, ?_, fun a ha => k a ?_⟩
    · rw [List.append_assoc, List.nodup_append] at nd
      rw [List.append_nil]
      exact List.nodup_append.mpr ⟨nd.1, (List.nodup_append.mp nd.2.1).2.1, fun a ha b hb => nd.2.2 a ha b (List.mem_append_right _ hb)⟩
    · rw [List.append_nil] at ha
      rcases List.mem_append.mp ha with ha | ha
      · exact List.mem_append_left _ (List.mem_append_left _ ha)
      · exact List.mem_append_right _ ha
  · have hl := Sls.len hs
    rw [List.set_eq_of_length_le (by omega), List.set_eq_of_length_le (by omega)]
    exact S
theorem wipe_get {σ : St} {j : Nat} : ∀ {vs : List Nat}, j ∉ vs → (wipe σ vs)[j]? = σ[j]?
  | [], _ => rfl
  | v :: vs, h => by
    rw [wipe, List.getElem?_set_ne (fun e => h (by rw [← e]; exact List.mem_cons_self))]
    exact wipe_get fun z => h (List.mem_cons_of_mem _ z)
theorem wipe_in {σ : St} {j : Nat} : ∀ {vs : List Nat}, j ∈ vs → j < σ.length → (wipe σ vs)[j]? = some none
  | v :: vs, h, hl => by
    rw [wipe]
    by_cases e : v = j
    · subst e
      exact List.getElem?_set_self (by rw [wipe_length]; exact hl)
    · rw [List.getElem?_set_ne e]
      exact wipe_in ((List.mem_cons.mp h).resolve_left fun q => e q.symm) hl
theorem wipe_same {σ τ : St} {vs : List Nat} (hl : τ.length = σ.length) (h : ∀ j, j ∉ vs → τ[j]? = σ[j]?) : wipe τ vs = wipe σ vs := by
  apply List.ext_getElem?
  intro j
  by_cases hj : j ∈ vs
  · by_cases hlt : j < σ.length
    · rw [wipe_in hj hlt, wipe_in hj (by rw [hl]; exact hlt)]
    · rw [List.getElem?_eq_none (by rw [wipe_length]; omega), List.getElem?_eq_none (by rw [wipe_length]; omega)]
  · rw [wipe_get hj, wipe_get hj, h j hj]
theorem wipe_wipe (σ : St) (vs : List Nat) : wipe (wipe σ vs) vs = wipe σ vs := wipe_same (wipe_length σ vs) fun j hj => wipe_get hj
/-- the slots in a comprehension -/
theorem SR.lend (S : SR K H0 Z0 H Z σ ρ) (vs : List Nat) : SR K H Z H Z (wipe σ vs) (U.lend (wipeE ρ vs)) := by
  refine ⟨Ext.refl S.ext.zd, [], ?_, List.nodup_nil, fun _ h => by cases h⟩
  obtain ⟨fp, hs, nd, k⟩ := S.own
  have e0 := S.ext
  clear nd k S
  have h1 : ∀ vs, ∃ f, Sls H0 Z0 H Z K (wipeE ρ vs) (wipe σ vs) f := by
    intro vs
    induction vs with
    | nil => exact ⟨fp, hs⟩
    | cons v vs ih =>
      obtain ⟨f, hf⟩ := ih
      rw [wipeE, wipe]
      by_cases hi : v < (wipeE ρ vs).length
      · obtain ⟨w, f, g1, g2, e1, e2, rfl, q⟩ := Sls.part hf (List.getElem?_eq_getElem hi)
        exact ⟨_, q H Z none none [] Kp.refl (fun _ _ => rfl) rfl⟩
      · have hl := Sls.len hf
        rw [List.set_eq_of_length_le (by omega), List.set_eq_of_length_le (by omega)]
        exact ⟨f, hf⟩
  obtain ⟨f, hf⟩ := h1 vs
  generalize wipeE ρ vs = ρ' at hf ⊢
  generalize wipe σ vs = σ' at hf ⊢
  clear hs h1
  induction ρ' generalizing σ' f with
  | nil => exact ⟨hf.1, rfl⟩
  | cons s ρ' ih =>
    obtain ⟨w, τ, f1, g1, rfl, rfl, h1, h2⟩ := hf
    refine ⟨w, τ, [], [], rfl, rfl, ?_, ih _ _ h2⟩
    cases s with
    | none => rfl
    | some s =>
      cases s with
      | w o =>
        obtain ⟨v, rfl, h3⟩ := h1
        cases o with
        | z d => exact ⟨v, rfl, rfl, h3.2⟩
        | _ => exact ⟨rfl, v, f1, rfl, h3⟩
      | r o =>
        obtain ⟨_, v, g, rfl, h3⟩ := h1
        exact ⟨rfl, v, g, rfl, h3.ext e0⟩
end
section
variable {X : Cx} {W : WX} {own : Prop} {e a b c tg it el : Expr} {f fa fb fc : EV} {pos : Pos} {H0 H H' : Hp} {Z0 Z Z' : Zs} {σ : St} {ρ : Env} {ta tb : EB} {g : EG} {gs : List EG} {fi : EI} {vs : List Nat} {tgs : List Expr}
theorem pl_n (i : Nat) {x : Str} (hN : X.N.Nodup) (hi : X.N[i]? = some x) (hx : Loc X.env.scope x) (hf : X.fn x = true ∨ X.env.scope.names.lookup x = some .local) (hv : i ∈ vs) : PuL X (.Name x pos) (tNr i) vs := by
  refine ⟨_, pg_name hN hi hx hf, ?_⟩
  intro H0 Z0 H Z σ ρ S o v g ρ' ho e Q h
  cases e
  exact h _ (S.putL ho i) (List.length_set ..) fun j hj => List.getElem?_set_ne fun (z : i = j) => hj (z ▸ hv)
theorem pls_nil : PuLs X [] [] vs := by
  refine ⟨_, pgs_nil, ?_⟩
  intro H0 Z0 H Z σ ρ S os ws g ρ' ho e Q h
  cases os with
  | nil =>
    cases e
    exact ⟨ho.1, h σ S rfl fun _ _ => rfl⟩
  | cons _ _ => cases e
theorem pls_cons (h : PuL X tg g vs) (hs : PuLs X tgs gs vs) (ha : (assignEach (tg :: tgs) X.env).map (·.2) = assign tg X.env :: (assignEach tgs X.env).map (·.2)) : PuLs X (tg :: tgs) (g :: gs) vs := by
  obtain ⟨t, p, q⟩ := h.ex
  obtain ⟨u, p', q'⟩ := hs.ex
  refine ⟨_, pgs_cons p p' ha, ?_⟩
  intro H0 Z0 H Z σ ρ S os ws g0 ρ' ho e Q k
  cases os with
  | nil => cases e
  | cons o os =>
    obtain ⟨v, r, f1, f2, rfl, rfl, h1, h2, h3⟩ := ho
    refine ⟨v, r, rfl, ?_⟩
    rw [tTs] at e
    cases e1 : g o ρ with
    | none => rw [e1] at e; cases e
    | some ρ1 =>
      rw [e1] at e
      exact q S o v f1 ρ1 h1 e1 _ fun σ1 S1 l1 d1 => q' S1 os r f2 ρ' h2 e Q fun σ2 S2 l2 d2 => k σ2 S2 (l2.trans l1) fun j hj => (d2 j hj).trans (d1 j hj)
theorem tTs_len : ∀ {gs : List EG} {os : List O} {ρ ρ' : Env}, tTs gs os ρ = some ρ' → os.length = gs.length
  | [], [], _, _, _ => rfl
  | [], _ :: _, _, _, e => by cases e
  | _ :: _, [], _, _, e => by cases e
  | g :: gs, o :: os, ρ, ρ', e => by
    rw [tTs] at e
    cases e1 : g o ρ with
    | none => rw [e1] at e; cases e
    | some ρ1 =>
      rw [e1] at e
      rw [List.length_cons, List.length_cons, tTs_len e]
theorem pl_t {es : List Expr} {k n : Nat} (hc : X.calm = true) (h : PuLs X es gs vs) (hn : (assignEach es X.env).length = n) (hst : (assignEach es X.env).findIdx? (·.1) = none) (hg : gs.length = n) : PuL X (.Tuple es k pos) (tT gs) vs := by
  obtain ⟨t, p, q⟩ := h.ex
  refine ⟨_, pg_tup hc p hn hst, ?_⟩
  intro H0 Z0 H Z σ ρ S o v g ρ' ho e Q k
  unfold tT at e
  cases et : tupO o with
  | none => rw [et] at e; cases e
  | some os =>
    rw [et] at e
    obtain ⟨a, ws, rfl, h1, h2⟩ := ho.tup et
    exact ⟨a, ws, rfl, SqT.kp S.ext.kp h1, by rw [h2.length, ← hg]; exact tTs_len e, q S os ws g ρ' h2 e Q k⟩
structure PTs' (X : Cx) (ifs : List Expr) (f : EB) : Prop where
  ex : ∃ t : TT, PTs X ifs t ∧ SatT X (fun _ _ _ _ => False) t f
theorem pts_no : PTs' X [] U.tYes := ⟨_, pts_nil, fun S Q h => h _ _ (Ext.refl S.ext.zd)⟩
theorem pts_1 (h : PuT X (fun _ _ _ _ => False) c ta) : PTs' X [c] ta := by
  obtain ⟨t, p, q⟩ := h.ex
  exact ⟨t, pts_one p, q⟩
abbrev WF : WX := fun _ _ _ _ => False
theorem lcGo_cons {o : O} {os acc : List O} {ρ : Env} : lcGo g ta f ρ (o :: os) acc = (match g o ρ with
    | none => .bad
    | some ρ1 => (ta ρ1).nox.bind fun b => if b then (f ρ1).nox.bind fun o => if acc.length < lineMax ∧ nS o = true then lcGo g ta f ρ os (acc ++ [o]) else .bad else lcGo g ta f ρ os acc) := by
  rw [lcGo] <;> cases g o ρ <;> rfl
/-- the readings that f itself tells -/
def cE (X : Cx) (f : EV) : TE := fun σ H Q => ∃ H0 Z0 Z ρ, SR X.K H0 Z0 H Z σ ρ ∧ PostE X WF True σ H Z (f ρ) Q
def cT (X : Cx) (f : EB) : TT := fun σ H Q => ∃ H0 Z0 Z ρ, SR X.K H0 Z0 H Z σ ρ ∧ PostT X WF σ H Z (f ρ) Q
def cG (X : Cx) (vs : List Nat) (g : EG) : TG := fun v σ H Q => ∃ H0 Z0 Z ρ o fp ρ', SR X.K H0 Z0 H Z σ ρ ∧ Own H0 Z0 X.K o v fp ∧ g o ρ = some ρ' ∧ ∀ σ', SR X.K H0 Z0 H Z σ' ρ' → σ'.length = σ.length → (∀ j, j ∉ vs → σ'[j]? = σ[j]?) → Q σ' H
theorem cE_ok {Y : Cx} (hK : Y.K = X.K) (hm : Y.mg = X.mg) (h : PuE Y WF el f) : PE Y el (cE X f) := by
  obtain ⟨t, p, q⟩ := h.ex
  refine ⟨fun pins s σ H Q I ⟨H0, Z0, Z, ρ, S, k⟩ => p.run pins s σ H Q I (q (by rw [hK]; exact S) Q ?_)⟩
  revert k
  unfold PostE ErrP
  rw [hK, hm]
  exact id
theorem cT_ok {Y : Cx} {ifs : List Expr} (hK : Y.K = X.K) (hm : Y.mg = X.mg) (h : PTs' Y ifs ta) : PTs Y ifs (cT X ta) := by
  obtain ⟨t, p, q⟩ := h.ex
  refine ⟨fun pins s σ H Q I ⟨H0, Z0, Z, ρ, S, k⟩ => p.run pins s σ H Q I (q (by rw [hK]; exact S) Q ?_)⟩
  revert k
  unfold PostT ErrP
  rw [hK, hm]
  exact id
theorem cG_ok {Y : Cx} (hK : Y.K = X.K) (h : PuL Y tg g vs) : PG Y tg (cG X vs g) := by
  obtain ⟨t, p, q⟩ := h.ex
  refine ⟨fun pins s σ H v u Q I r ⟨H0, Z0, Z, ρ, o, fp, ρ', S, ho, e, k⟩ => p.run pins s σ H v u Q I r (q (by rw [hK]; exact S) o v fp ρ' (by rw [hK]; exact ho) e Q (by rw [hK]; exact k))⟩
theorem sat_lc {w : TI} (q : ∀ {H0 Z0 H Z σ ρ}, SR X.K H0 Z0 H Z σ ρ → ∀ R, PostI X W False σ H Z (fi ρ) R → w σ H R) : Sat X W True (tLc w (cG X vs g) (cT X ta) (cE X f) vs) (eLc fi g ta f vs) := by
  intro H0 Z0 H Z σ ρ S Q h
  unfold tLc
  refine q S _ ?_
  revert h
  unfold eLc PostE PostI
  cases fi ρ with
  | bad => exact id
  | err cn d => exact id
  | ok items =>
    rw [Res.bind_ok]
    intro h J H1 Z1 ex feed D hD
    have S1 := S.grow ex
    have SL := S1.lend vs
    have eD := Ext.new (Z := Z1) (o := .lst []) ex.zd hD
    -- what is made so far: acc, at D
    refine ⟨fun i m H' => m = items.length - i ∧ i ≤ items.length ∧ ∃ Z' acc ws ga, Ext H1 Z1 H' Z' ∧ ¬ Z' D ∧ H' D = some (.lst ws) ∧ Owns H' Z' X.K acc ws ga ∧ New H1 Z' ga ∧ D ∉ ga ∧
      PostE X W True σ H Z ((lcGo g ta f (U.lend (wipeE ρ vs)) (items.drop i) acc).bind fun os => .ok (.l os)) Q, ⟨items.length, by simp, Nat.zero_le _, Z1, [], [], [], eD, fun z => ex.zd D z hD, upd_same, ⟨rfl, rfl⟩, New.nil, by simp, h⟩, ?_⟩
    rintro i m H' ⟨rfl, hi, Z', acc, ws, ga, ex', nzD, hD', oa, na, nD, h'⟩
    obtain ⟨fd1, fd2⟩ := feed i H' Z' (fun z => z.elim) (fun _ => ex') ex'.zd
    by_cases hlt : i < items.length
    · obtain ⟨go, yl⟩ := fd1 _ (List.getElem?_eq_getElem hlt)
      rw [List.drop_eq_getElem_cons hlt, lcGo_cons] at h'
      cases e1 : g items[i] (U.lend (wipeE ρ vs)) with
      | none => rw [e1] at h'; exact h'.elim
      | some ρ1 =>
        rw [e1] at h'
        dsimp only at h'
        refine .inr ⟨go, fun H2 => ∃ m', m' < items.length - i ∧ m' = items.length - (i + 1) ∧ i + 1 ≤ items.length ∧ ∃ Z' acc ws ga, Ext H1 Z1 H2 Z' ∧ ¬ Z' D ∧ H2 D = some (.lst ws) ∧ Owns H2 Z' X.K acc ws ga ∧ New H1 Z' ga ∧ D ∉ ga ∧
          PostE X W True σ H Z ((lcGo g ta f (U.lend (wipeE ρ vs)) (items.drop (i + 1)) acc).bind fun os => .ok (.l os)) Q, fun _ z => z, fun x H3 y => ?_⟩
        obtain ⟨Z3, gx, ex3, ox⟩ := yl x H3 y
        have ex13 := ex'.trans ex3
        have D3 := ex3.keep _ _ hD'
        have nz3 : ¬ Z3 D := fun z => by
          rcases ex3.zn D z with z | z
          · exact nzD z
          · rw [hD'] at z; cases z
        -- the target: as if the block began here
        refine ⟨H3, Z3, Z3, U.lend (wipeE ρ vs), items[i], gx, ρ1, (S1.grow ex13).lend vs, ox, e1, fun σ2 S2 l2 d2 => ⟨?_, ?_⟩⟩
        · rw [wipe_same l2 d2, wipe_wipe]
        · -- the test
          refine ⟨H3, Z3, Z3, ρ1, S2, ?_⟩
          revert h'
          unfold PostT
          cases ta ρ1 with
          | bad => exact fun z => z.elim
          | err cn d => exact fun z => z.elim
          | ok b =>
            rw [Res.nox_ok, Res.bind_ok]
            intro h' H4 Z4 ex4
            have D4 := ex4.keep _ _ D3
            have nz4 : ¬ Z4 D := fun z => by
              rcases ex4.zn D z with z | z
              · exact nz3 z
              · rw [D3] at z; cases z
            have ex14 := ex13.trans ex4
            have ex04 := ex3.trans ex4
            cases b with
            | false =>
              rw [if_neg Bool.false_ne_true] at h' ⊢
              exact ⟨_, by omega, rfl, hlt, Z4, acc, ws, ga, ex14, nz4, D4, oa.ext ex04, na.later (K := X.K) (fun a ha => oa.ne ha) ex04, nD, h'⟩
            | true =>
              rw [if_pos rfl] at h' ⊢
              refine ⟨H3, Z3, Z4, ρ1, S2.grow ex4, ?_⟩
              revert h'
              unfold PostE
              cases f ρ1 with
              | bad => exact fun z => z.elim
              | err cn d => exact fun z => z.elim
              | ok o =>
                rw [Res.nox_ok, Res.bind_ok]
                by_cases hcc : acc.length < lineMax ∧ nS o = true
                · rw [if_pos hcc]
                  intro h' v5 H5 Z5 g5 ex5 o5 n5
                  have n5' := n5 trivial
                  have D5 := ex5.keep _ _ D4
                  have ex05 := ex04.trans ex5
                  have ex15 := ex14.trans ex5
                  have nz5 : ¬ Z5 D := fun z => by
                    rcases ex5.zn D z with z | z
                    · exact nz4 z
                    · rw [D4] at z; cases z
                  have oa5 := oa.ext ex05
                  have na5 := na.later (K := X.K) (fun a ha => oa.ne ha) ex05
                  refine ⟨ws, D5, by rw [oa.length, ← line_eq]; exact hcc.1, ?_⟩
                  have nD5 : D ∉ ga ++ g5 := fun z => by
                    rcases List.mem_append.mp z with z | z
                    · exact nD z
                    · rw [(n5'.2 D z).2] at D4; cases D4
                  have kp6 : Kp H5 Z5 (upd H5 D (.lst (ws ++ [v5]))) Z5 := ⟨fun _ z => z, fun b u z e => by
                    have nb : b ≠ D := fun q => nz5 (q ▸ z)
                    rw [upd_ne nb]; exact e, fun b xs e => by
                    have nb : b ≠ D := fun q => by
                      rw [q] at e
                      rcases e with e | ⟨_, e⟩ <;> (rw [D5] at e; cases e)
                    rcases e with e | ⟨u, e⟩
                    · exact .inl (by rw [upd_ne nb]; exact e)
                    · exact .inr ⟨u, by rw [upd_ne nb]; exact e⟩, fun b u x e => by
                    have nb : b ≠ D := fun q => by
                      rw [q, D5] at e; cases e
                    rw [upd_ne nb]; exact e⟩
                  refine ⟨_, by omega, rfl, hlt, Z5, acc ++ [o], ws ++ [v5], ga ++ g5, ⟨fun b u e => ?_, ex15.zz, ex15.zn, fun b z => ?_⟩, nz5, upd_same, ?_, ?_, nD5, h'⟩
                  · rw [upd_ne (ne_of_none e hD)]
                    exact ex15.keep _ _ e
                  · by_cases q : b = D
                    · rw [q, upd_same]; exact fun z => by cases z
                    · rw [upd_ne q]; exact ex15.zd b z
                  · refine Owns.frame kp6 _ _ _ (fun b hb => ?_) (Owns.app oa5 ⟨v5, [], g5, [], rfl, by simp, o5, ⟨rfl, rfl⟩, hcc.2⟩)
                    have nb : b ≠ D := fun q => nD5 (q ▸ hb)
                    rw [upd_ne nb]
                  · refine ⟨List.nodup_append.mpr ⟨na5.1, n5'.1, fun b hb c hc q => ?_⟩, fun b hb => ?_⟩
                    · have := (oa.ext ex04).ne hb
                      rw [q] at this
                      exact this (n5'.2 c hc).2
                    · rcases List.mem_append.mp hb with hb | hb
                      · exact na5.2 b hb
                      · exact ⟨(n5'.2 b hb).1, ex14.back (n5'.2 b hb).2⟩
                · rw [if_neg hcc]
                  exact fun z => z.elim
    · have ei : i = items.length := by omega
      subst ei
      rw [List.drop_length, lcGo] at h'
      refine .inl ⟨fd2 rfl, h' (.ref D) H' Z' (D :: ga) (ex.trans ex') ⟨D, ws, ga, rfl, rfl, hD', oa⟩ fun _ => ⟨List.nodup_cons.mpr ⟨nD, na.1⟩, fun b hb => ?_⟩⟩
      rcases List.mem_cons.mp hb with hb | hb
      · subst hb; exact ⟨nzD, ex.back hD⟩
      · exact ⟨(na.2 b hb).1, ex.back (na.2 b hb).2⟩
theorem pu_lc {ifs : List Expr} {scope : Scope} {own' : List (Str × Nat)} (hc : X.calm = true) (hN : X.N.Nodup) (hvs : own'.map (·.2) = vs) (ok : BlkOk X.N X.env.scope scope own') (hs : ∀ x, foldedSetIterable it X.env x = pure x) (hi : PIX X W False tg it fi)
    (hg : ∀ (s : Shared) (H : Hp) (C : Addr) (cl : List (Str × Addr)) (fp : List Addr), PuL (X.blk s H scope (compEnvC scope cl C X.env) fp) tg g vs)
    (ht : ∀ (s : Shared) (H : Hp) (C : Addr) (cl : List (Str × Addr)) (fp : List Addr), PTs' (X.blk s H scope (compEnvC scope cl C X.env) fp) ifs ta)
    (he : ∀ (s : Shared) (H : Hp) (C : Addr) (cl : List (Str × Addr)) (fp : List Addr), PuE (X.blk s H scope (compEnvC scope cl C X.env) fp) WF el f) :
    PuE X W (.ListComp el [⟨tg, it, ifs, 0⟩] scope pos) (eLc fi g ta f vs) := by
  obtain ⟨w, p, q⟩ := hi.ex
  have h := pe_lc (pos := pos) (g := cG X vs g) (tt := cT X ta) (te := cE X f) hc hN p ok (fun s H C cl fp => cG_ok rfl (hg s H C cl fp)) (fun s H C cl fp => cT_ok rfl rfl (ht s H C cl fp)) (fun s H C cl fp => cE_ok rfl rfl (he s H C cl fp)) hs
  rw [hvs] at h
  exact ⟨_, h, sat_lc q⟩
/-- y = [..] on one line -/
theorem ps_lc (i : Nat) {y : Str} {py spos : Pos} {ifs : List Expr} {scope : Scope} {own' : List (Str × Nat)} (hc : X.calm = true) (hN : X.N.Nodup) (hy : X.N[i]? = some y) (hyl : X.env.scope.names.lookup y = some .local)
    (hsw : swapsWith (.ListComp el [⟨tg, it, ifs, 0⟩] scope pos) (some (.Name y py)) spos.line X.env = pure true) (hvs : own'.map (·.2) = vs) (ok : BlkOk X.N X.env.scope scope own') (hs : ∀ x, foldedSetIterable it X.env x = pure x) (hi : PIX X W False tg it fi)
    (hg : ∀ (s : Shared) (H : Hp) (C : Addr) (cl : List (Str × Addr)) (fp : List Addr), PuL (X.blk s H scope (compEnvC scope cl C X.env) fp) tg g vs)
    (ht : ∀ (s : Shared) (H : Hp) (C : Addr) (cl : List (Str × Addr)) (fp : List Addr), PTs' (X.blk s H scope (compEnvC scope cl C X.env) fp) ifs ta)
    (he : ∀ (s : Shared) (H : Hp) (C : Addr) (cl : List (Str × Addr)) (fp : List Addr), PuE (X.blk s H scope (compEnvC scope cl C X.env) fp) WF el f) :
    PuS X W (.Assign [.Name y py] (.ListComp el [⟨tg, it, ifs, 0⟩] scope pos) spos) (sAsg (eLc fi g ta f vs) (tN i)) := by
  obtain ⟨w, p, q⟩ := hi.ex
  have h := ps_setLc (i := i) (py := py) (spos := spos) (pos := pos) (g := cG X vs g) (tt := cT X ta) (te := cE X f) hc hN hy hyl hsw p ok (fun s H C cl fp => cG_ok rfl (hg s H C cl fp)) (fun s H C cl fp => cT_ok rfl rfl (ht s H C cl fp)) (fun s H C cl fp => cE_ok rfl rfl (he s H C cl fp)) hs
  rw [hvs] at h
  refine ⟨_, h, ?_⟩
  intro H0 Z0 H Z σ ρ S D h
  unfold tAsg
  refine sat_lc (W := W) q S _ ?_
  revert h
  unfold sAsg PostE Res.out
  cases eLc fi g ta f vs ρ with
  | bad => exact id
  | err cn d => exact fun h => PostS.errE S h
  | ok o => exact fun h v H1 Z1 g1 e1 o1 n1 => h _ H1 Z1 e1.kp ((S.push e1 o1 (n1 trivial)).pop i)
end
/-! ### defs -/
/-- a def's promise: its value is F's -/
def spU (K : PySem.W.Frag) (mg : Str → Option Value) (n : Nat) (F : List O → Res O) : Sp := fun vs H Q E => ∃ (Z : Zs) (os : List O) (fp : List Addr), (∀ a, Z a → H a ≠ none) ∧ os.length = n ∧ OwnA H Z K os vs fp ∧ match F os with
  | .ok o => ∀ v H' Z' g, Ext H Z H' Z' → Own H' Z' K o v g → New H Z' g → Q v H'
  | .err c d => ∀ C dx v H' Z', mg c = some (.ref C) → Ext H Z H' Z' → H' dx = some (.xd [("at", v)]) → RZ H' Z' K d v → E (.ref C) (some dx) H'
  | .bad => False
section
variable {P : Program} {w : World} {K : PySem.W.Frag} {mg : Str → Option Value} {base : Heap}
theorem Sls.app {H0 H : Hp} {Z0 Z : Zs} : ∀ {ρ θ : Env} {σ τ : St} {f g : List Addr}, Sls H0 Z0 H Z K ρ σ f → Sls H0 Z0 H Z K θ τ g → Sls H0 Z0 H Z K (ρ ++ θ) (σ ++ τ) (f ++ g)
  | [], θ, σ, τ, f, g, h, h' => by rw [h.1, h.2]; exact h'
  | s :: ρ, θ, σ, τ, f, g, h, h' => by
    obtain ⟨w, σ', f1, g1, rfl, rfl, h1, h2⟩ := h
    exact ⟨w, σ' ++ τ, f1, g1 ++ g, rfl, by rw [List.append_assoc], h1, Sls.app h2 h'⟩
theorem sls_none {H0 H : Hp} {Z0 Z : Zs} : ∀ n : Nat, Sls H0 Z0 H Z K (List.replicate n none) (List.replicate n none) []
  | 0 => ⟨rfl, rfl⟩
  | n + 1 => ⟨none, _, [], [], rfl, rfl, rfl, sls_none n⟩
theorem sls_args {H : Hp} {Z : Zs} : ∀ {os : List O} {vs : List V} {fp : List Addr}, OwnA H Z K os vs fp → Sls H Z H Z K (os.map fun o => some (lent o)) (vs.map some) []
  | [], vs, fp, h => by rw [h.1]; exact ⟨rfl, rfl⟩
  | o :: os, vs, fp, h => by
    obtain ⟨v, r, f, g, rfl, rfl, h1, h2⟩ := h
    refine ⟨some v, r.map some, [], [], rfl, rfl, ?_, sls_args h2⟩
    cases o with
    | z d => exact ⟨v, rfl, rfl, h1.2⟩
    | _ => exact ⟨rfl, v, f, rfl, h1⟩
theorem SR.start {H : Hp} {Z : Zs} {os : List O} {vs : List V} {fp : List Addr} {N : List Str} (hz : ∀ a, Z a → H a ≠ none) (h : OwnA H Z K os vs fp) : SR K H Z H Z (L2.start N vs) (entry N.length os) := by
  refine ⟨Ext.refl hz, [], ?_, List.nodup_nil, fun _ h => by cases h⟩
  unfold L2.start entry
  rw [h.len]
  exact Sls.app (sls_args h) (sls_none _)
theorem spU_len {n : Nat} {F : List O → Res O} : ∀ vs H Q E, spU K mg n F vs H Q E → vs.length = n := by
  intro vs H Q E ⟨Z, os, fp, _, hn, h, _⟩
  rw [h.len, hn]
/-- a def of the text, by its body -/
theorem fnU {x qual : Str} {st : Stmt} {f : Addr} {fd : FuncData} {N ps : List Str} {k : Nat} {fs : ES} (F : Fun K x qual st f fd) (Sc : FnScope N ps (defScope st))
    (hb : ∀ (cdv : Value) (A : Around) (outer : List PySem.Env) (s : Shared) (H : Hp) (E : XK), Room k (A.deeper (PyProof.Rows.envOfC qual (defScope st) s.heap.objs.size f cdv)) →
      PuSs (cxOf (L2.CX P w) P w K mg base N qual (defScope st) f cdv A outer s H E) (fun cls d _ H => E cls d H) (defBody st) fs) :
    FnOk P w K mg base (L2.CX P w) (k + 1) f fd ps (spU K mg ps.length (run N.length fs)) := by
  refine F.okX Sc spU_len fun cdv A outer s H vs Q E hr ⟨Z, os, fp, hz, hn, ho, h⟩ => ?_
  obtain ⟨t, p, q⟩ := (hb cdv A outer s H E hr).ex
  refine ⟨t, p, q (SR.start hz ho) _ ?_⟩
  revert h
  unfold run
  cases fs (entry N.length os) with
  | nx ρ' => exact fun h σ' H' Z' _ S => h .non H' Z' [] S.ext ⟨rfl, rfl⟩ New.nil
  | rt o => exact fun h v H' Z' g e o n => h v H' Z' g e o n
  | err c d ρ' => exact fun h C dx v σ' H' Z' m _ S hd r => h C dx v H' Z' m S.ext hd r
  | bk _ => exact fun h => h.elim
  | ct _ => exact fun h => h.elim
  | bad => exact fun h => h.elim
end
section
variable {X : Cx} {W : WX} {e : Expr} {es : List Expr} {fs : EA} {pos p : Pos}
/-- a call of a def -/
theorem pu_call {x : Str} {k : Nat} {f : Addr} {fd : FuncData} {ps : List Str} {F : List O → Res O} (G : FnOk X.prog X.w X.K X.mg X.base (L2.CX X.prog X.w) k f fd ps (spU X.K X.mg ps.length F)) (hr : Room k X.A) (hg : Gl X x) (hm : X.mg x = some (.ref f)) (hk : PySem.W.keepIn X.K (.ref f) = true) (hb : Binds X.K fd ps [])
    (tk : Takes X W) (hlen : (e :: es).length = ps.length) (hdb : (x == ("__debug__" : Str)) = false) (he : starEach (e :: es) X.env = (false, eval e X.env) :: starEach es X.env) (hpl : (backTo pos (starEach es X.env)).any (·.1) = false) (ha : PuAB X W (e :: es) fs) :
    PuE X W (.Call (.Name x p) (e :: es) [] pos) (eCall F fs) := by
  obtain ⟨t, pa, q⟩ := ha.ex
  refine ⟨_, pe_callS (E := WE W) G hr hg hm hk hb (fun σ => passAt tk σ) pa hdb he hpl, ?_⟩
  intro H0 Z0 H Z σ ρ S Q h
  unfold tCallS
  refine q S _ ?_
  revert h
  have hl : ∀ os, fs ρ = .ok os → os.length = ps.length := fun os e => (ha.len ρ os e).trans hlen
  revert hl
  unfold eCall PostA PostE
  cases fs ρ with
  | bad => exact fun _ => id
  | err cn d => exact fun _ => id
  | ok os =>
    intro hl h vs H1 Z1 g1 e1 o1 _
    refine ⟨Z1, os, g1, e1.zd, hl os rfl, o1, ?_⟩
    revert h
    rw [Res.bind_ok]
    cases F os with
    | bad => exact id
    | err cn d => exact fun h C dx v H2 Z2 m e2 hd r => h C dx v H2 Z2 m (e1.trans e2) hd r
    | ok o => exact fun h v H2 Z2 g2 e2 o2 n2 => h v H2 Z2 g2 (e1.trans e2) o2 fun _ => n2.grow e1
/-- what callers know of a def -/
structure Cal (P : Program) (w : World) (K : PySem.W.Frag) (mg : Str → Option Value) (base : Heap) (x : Str) (k n : Nat) (F : List O → Res O) : Prop where
  ex : ∃ (f : Addr) (fd : FuncData) (ps : List Str), FnOk P w K mg base (L2.CX P w) k f fd ps (spU K mg ps.length F) ∧ mg x = some (.ref f) ∧ PySem.W.keepIn K (.ref f) = true ∧ Binds K fd ps [] ∧ ps.length = n
theorem pu_cal {x : Str} {k k' n : Nat} {F : List O → Res O} (c : Cal X.prog X.w X.K X.mg X.base x k n F) (hr : Room k' X.A) (hk : k ≤ k') (tk : Takes X W) (ha : PuAB X W (e :: es) fs) (hlen : (e :: es).length = n) (hg : Gl X x) (hdb : (x == ("__debug__" : Str)) = false)
    (he : starEach (e :: es) X.env = (false, eval e X.env) :: starEach es X.env) (hpl : (backTo pos (starEach es X.env)).any (·.1) = false) : PuE X W (.Call (.Name x p) (e :: es) [] pos) (eCall F fs) := by
  obtain ⟨f, fd, ps, G, hm, kp, hb, hl⟩ := c.ex
  exact pu_call G (hr.mono hk) hg hm kp hb tk (hlen.trans hl.symm) hdb he hpl ha
/-! ### subscripts -/
variable {a b : Expr} {fa fb : EV} {K : PySem.W.Frag}
theorem at_eq {α : Type} (xs : List α) (i : Int) : at_ xs i = atI xs i := by
  unfold at_ atI ixN
  by_cases h : 0 ≤ i
  · rw [if_pos h, if_pos h]
    by_cases h2 : i < (xs.length : Int)
    · rw [if_pos h2]; rfl
    · rw [if_neg h2, List.getElem?_eq_none (by omega)]; rfl
  · rw [if_neg h, if_neg h]
    by_cases h2 : -(xs.length : Int) ≤ i
    · rw [if_pos h2, if_pos (by omega)]; rfl
    · rw [if_neg h2, if_neg (by omega)]; rfl
theorem atI_own {H : Hp} {Z : Zs} {os : List O} {vs : List V} {fp : List Addr} {i : Int} {o : O} (h : Owns H Z K os vs fp) (e : at_ os i = some o) : ∃ v g, atI vs i = some v ∧ Own H Z K o v g := by
  rw [at_eq] at e
  unfold atI at e ⊢
  rw [h.length]
  cases q : ixN os.length i with
  | none => rw [q] at e; cases e
  | some j =>
    rw [q] at e
    obtain ⟨v, g, e1, e2, _⟩ := Owns.get h e
    exact ⟨v, g, e1, e2⟩
def rIx (K : PySem.W.Frag) : R2 := fun x y H Q => rIxL K x y H Q ∨ rIxT K x y H Q
theorem ix_U : IxR X (rIx X.K) := ix_list.or ix_tup
theorem zOf_ok {H : Hp} {Z : Zs} {Q : VK} {o : Option O} (p : PostG H Z K (zOf o) Q) : ∃ d, o = some (.z d) ∧ PostG H Z K (.ok (.z d)) Q := by
  cases o with
  | none => exact p.elim
  | some o =>
    cases o with
    | z d => exact ⟨d, rfl, p⟩
    | _ => exact p.elim
theorem gr_ix : GR2 K (rIx K) gIx := fun {H Z x y o p f1 f2} hz o1 o2 Q => by
  unfold gIx
  split
  · rename_i i
    obtain ⟨_, rfl⟩ := o2
    split
    · rename_i ns
      obtain ⟨_, a, rfl, h⟩ := o1
      intro p
      obtain ⟨d, e, p⟩ := zOf_ok p
      rw [at_eq] at e
      cases q : atI ns i with
      | none => rw [q] at e; cases e
      | some n =>
        rw [q] at e
        cases e
        refine .inl ⟨a, ns.map V.int, i, .int n, rfl, rfl, h.sql, ?_, PostG.z hz rz_int p⟩
        unfold atI at q ⊢
        rw [List.length_map]
        cases q2 : ixN ns.length i with
        | none => rw [q2] at q; cases q
        | some j =>
          rw [q2] at q
          show (ns.map V.int)[j]? = some (.int n)
          rw [List.getElem?_map, show ns[j]? = some n from q]; rfl
    · cases es : seqO o with
      | some os =>
        intro p
        obtain ⟨d, e, p⟩ := zOf_ok p
        obtain ⟨a, vs, g, rfl, h1, h2, _⟩ := o1.seq es
        obtain ⟨v, g', e1, e2⟩ := atI_own h2 e
        exact .inl ⟨a, vs, i, v, rfl, rfl, SqL.of h1, e1, PostG.z hz e2.2 p⟩
      | none =>
        dsimp only
        cases et : tupO o with
        | none => exact fun p => p.elim
        | some os =>
          intro p
          obtain ⟨d, e, p⟩ := zOf_ok p
          obtain ⟨a, vs, rfl, h1, h2⟩ := o1.tup et
          obtain ⟨v, g', e1, e2⟩ := atI_own h2 e
          exact .inr ⟨a, vs, i, v, rfl, rfl, h1, e1, PostG.z hz e2.2 p⟩
  · exact fun p => p.elim
theorem pu_rev {k : Nat} {p1 p2 p3 : Pos} (ha : PuB X W a fa) : PuE X W (.Subscript a (.Slice none none (some (.UnaryOp .USub (.Constant (.int 1) k p1) p2)) p3) pos) (eRev fa) := by
  refine pu_1 (r := fun x H1 Q => ∃ a xs, x = .ref a ∧ SqL X.K H1 a xs ∧ ∀ p, H1 p = none → Q (.ref p) (upd H1 p (.lst xs.reverse))) (t := tRevL X.K) (fun _ => pe_revL) (fun _ _ _ _ => rfl) (fun {H Z x o f1} hz o1 Q => ?_) ha
  unfold gRev
  cases e : lz o with
  | none => exact fun p => p.elim
  | some ds =>
    obtain ⟨a, vs, rfl, h1, h2⟩ := o1.lz e
    refine fun p => ⟨a, vs, rfl, SqL.of h1, fun q hq => PostG.lst hz ?_ p hq⟩
    have key : ∀ {ds : List PyData} {vs : List V}, RZs H Z X.K ds vs → RZs H Z X.K ds.reverse vs.reverse := by
      intro ds
      induction ds with
      | nil => intro vs h; rw [show vs = [] from h]; exact rfl
      | cons d ds ih =>
        intro vs h
        obtain ⟨v, r, rfl, h1, h2⟩ := h
        rw [List.reverse_cons, List.reverse_cons]
        exact (ih h2).app ⟨v, [], rfl, h1, rfl⟩
    exact key h2
end
end U
end
/-! UT -/
section
set_option Elab.async false
set_option linter.all false
set_option maxRecDepth 100000
/-! UT: UW's rules in short, their side conditions shown on the way. -/
namespace U
open PySem L2
/-- the built-ins stand as they are -/
structure Blt (mg : Str → Option Value) : Prop where
  len : mg "len" = none
  range : mg "range" = none
  abs : mg "abs" = none
  int : mg "int" = none
  min : mg "min" = none
  max : mg "max" = none
  list : mg "list" = none
  isinstance : mg "isinstance" = none
  bool : mg "bool" = none
  tuple : mg "tuple" = none
section
variable {X : Cx} {W : WX} {own : Prop} {e a b c el it tg : Expr} {es : List Expr} {f fa fb fc : EV} {pos p : Pos} {fs : EA} {ta tb : EB}
/-- a name of the def -/
theorem nm (i : Nat) {x : Str} (hN : X.N[i]? = some x := by rfl) (hv : Vis X.env.scope x := by first | exact Or.inl rfl | exact Or.inr (Or.inl rfl) | exact Or.inr (Or.inr rfl)) (hd : (x == ("__debug__" : Str)) = false := by decide) (hcd : (x == ("__classdict__" : Str)) = false := by decide) : PuB X W (.Name x pos) (eVar i) := pu_var i hN hv hd hcd
/-- a constant of the module -/
theorem G_ {x : Str} {v : V} {u : Value} {d : PyData} (hm : X.mg x = some u) (r : RelV v u) (hd : ∀ H Z, RZ H Z X.K d v) (hg : Gl X x := by rfl) (hdb : (x == ("__debug__" : Str)) = false := by decide) : PuE X W (.Name x pos) (eC d) := pu_c (pe_glob hg hm r hdb) hd
theorem add_ (ha : PuB X W a fa) (hb : PuB X W b fb) : PuE X W (.BinOp a .Add b pos) (e2 gAdd fa fb) := pu_op op_addU gr_add ha hb
theorem sub_ (ha : PuB X W a fa) (hb : PuB X W b fb) : PuE X W (.BinOp a .Sub b pos) (e2 gSub fa fb) := pu_op op_sub gr_sub ha hb
theorem mul_ (ha : PuB X W a fa) (hb : PuB X W b fb) : PuE X W (.BinOp a .Mult b pos) (e2 gMul fa fb) := pu_op op_mulU gr_mul ha hb
theorem mod_ (ha : PuB X W a fa) (hb : PuB X W b fb) : PuE X W (.BinOp a .Mod b pos) (e2 gMod fa fb) := pu_op op_modN gr_mod ha hb
theorem div_ (ha : PuB X W a fa) (hb : PuB X W b fb) : PuE X W (.BinOp a .FloorDiv b pos) (e2 gDiv fa fb) := pu_op op_fdivN gr_div ha hb
theorem pow_ (ha : PuB X W a fa) (hb : PuB X W b fb) : PuE X W (.BinOp a .Pow b pos) (e2 gPow fa fb) := pu_op op_pow gr_pow ha hb
section
variable (hu : X.A.units + 65 < cLine)
include hu
theorem eq_ (ha : PuB X W a fa) (hb : PuB X W b fb) : PuE X W (.Compare a [.Eq] [b] pos) (e2 gEq fa fb) := pu_cmp (op_eqD (by omega)) gr_eq (nomark _) ha hb
theorem ne_ (ha : PuB X W a fa) (hb : PuB X W b fb) : PuE X W (.Compare a [.NotEq] [b] pos) (e2 gNe fa fb) := pu_cmp (op_neD (by omega)) gr_ne (nomark _) ha hb
theorem lt_ (ha : PuB X W a fa) (hb : PuB X W b fb) : PuE X W (.Compare a [.Lt] [b] pos) (e2 gLt fa fb) := pu_cmp (op_ltU (by omega)) gr_ord (nomark _) ha hb
theorem le_ (ha : PuB X W a fa) (hb : PuB X W b fb) : PuE X W (.Compare a [.LtE] [b] pos) (e2 gLe fa fb) := pu_cmp (op_leU (by omega)) gr_ord (nomark _) ha hb
theorem in_ (ha : PuB X W a fa) (hb : PuB X W b fb) (hm : behindInMarks .In b = false := by rfl) : PuE X W (.Compare a [.In] [b] pos) (e2 gIn fa fb) := pu_cmp (op_memU hu) gr_mem hm ha hb
theorem nin_ (ha : PuB X W a fa) (hb : PuB X W b fb) (hm : behindInMarks .NotIn b = false := by rfl) : PuE X W (.Compare a [.NotIn] [b] pos) (e2 gNin fa fb) := pu_cmp (op_nmemU hu) gr_mem hm ha hb
theorem teq_ (ha : PuB X W a fa) (hb : PuB X W b fb) : PuT X W (.Compare a [.Eq] [b] pos) (U.tB (e2 gEq fa fb)) := pt_cmp' (op_eqD (by omega)) gr_eq (nomark _) ha hb
theorem tne_ (ha : PuB X W a fa) (hb : PuB X W b fb) : PuT X W (.Compare a [.NotEq] [b] pos) (U.tB (e2 gNe fa fb)) := pt_cmp' (op_neD (by omega)) gr_ne (nomark _) ha hb
theorem tlt_ (ha : PuB X W a fa) (hb : PuB X W b fb) : PuT X W (.Compare a [.Lt] [b] pos) (U.tB (e2 gLt fa fb)) := pt_cmp' (op_ltU (by omega)) gr_ord (nomark _) ha hb
theorem tle_ (ha : PuB X W a fa) (hb : PuB X W b fb) : PuT X W (.Compare a [.LtE] [b] pos) (U.tB (e2 gLe fa fb)) := pt_cmp' (op_leU (by omega)) gr_ord (nomark _) ha hb
theorem tin_ (ha : PuB X W a fa) (hb : PuB X W b fb) (hm : behindInMarks .In b = false := by rfl) : PuT X W (.Compare a [.In] [b] pos) (U.tB (e2 gIn fa fb)) := pt_cmp' (op_memU hu) gr_mem hm ha hb
theorem tnin_ (ha : PuB X W a fa) (hb : PuB X W b fb) (hm : behindInMarks .NotIn b = false := by rfl) : PuT X W (.Compare a [.NotIn] [b] pos) (U.tB (e2 gNin fa fb)) := pt_cmp' (op_nmemU hu) gr_mem hm ha hb
theorem tch_le_lt (ha : PuB X W a fa) (hb : PuB X W b fb) (hc : PuB X W c fc) (hm : lastMarks [.LtE, .Lt] [b, c] = false := by with_unfolding_all rfl) : PuT X W (.Compare a [.LtE, .Lt] [b, c] pos) (U.tB (eCh gLe gLt fa fb fc)) := pt_ch (op_leU (by omega)) (op_ltU (by omega)) gr_ord gr_ord hm ha hb hc
theorem ch_le_lt (ha : PuB X W a fa) (hb : PuB X W b fb) (hc : PuB X W c fc) (hm : lastMarks [.LtE, .Lt] [b, c] = false := by with_unfolding_all rfl) : PuE X W (.Compare a [.LtE, .Lt] [b, c] pos) (eCh gLe gLt fa fb fc) := pu_ch (op_leU (by omega)) (op_ltU (by omega)) gr_ord gr_ord hm ha hb hc
theorem tch_le_le (ha : PuB X W a fa) (hb : PuB X W b fb) (hc : PuB X W c fc) (hm : lastMarks [.LtE, .LtE] [b, c] = false := by with_unfolding_all rfl) : PuT X W (.Compare a [.LtE, .LtE] [b, c] pos) (U.tB (eCh gLe gLe fa fb fc)) := pt_ch (op_leU (by omega)) (op_leU (by omega)) gr_ord gr_ord hm ha hb hc
theorem ch_le_le (ha : PuB X W a fa) (hb : PuB X W b fb) (hc : PuB X W c fc) (hm : lastMarks [.LtE, .LtE] [b, c] = false := by with_unfolding_all rfl) : PuE X W (.Compare a [.LtE, .LtE] [b, c] pos) (eCh gLe gLe fa fb fc) := pu_ch (op_leU (by omega)) (op_leU (by omega)) gr_ord gr_ord hm ha hb hc
end
theorem gt_ (ha : PuB X W a fa) (hb : PuB X W b fb) : PuE X W (.Compare a [.Gt] [b] pos) (e2 gGt fa fb) := pu_cmp op_gt gr_IB (nomark _) ha hb
theorem ge_ (ha : PuB X W a fa) (hb : PuB X W b fb) : PuE X W (.Compare a [.GtE] [b] pos) (e2 gGe fa fb) := pu_cmp op_ge gr_IB (nomark _) ha hb
theorem is_ (ha : PuB X W a fa) (hb : PuB X W b fb) : PuE X W (.Compare a [.Is] [b] pos) (e2 gIs fa fb) := pu_cmp op_isN gr_is (nomark _) ha hb
theorem isnt_ (ha : PuB X W a fa) (hb : PuB X W b fb) : PuE X W (.Compare a [.IsNot] [b] pos) (e2 gIsnt fa fb) := pu_cmp op_notN gr_isnt (nomark _) ha hb
theorem tgt_ (ha : PuB X W a fa) (hb : PuB X W b fb) : PuT X W (.Compare a [.Gt] [b] pos) (U.tB (e2 gGt fa fb)) := pt_cmp' op_gt gr_IB (nomark _) ha hb
theorem tge_ (ha : PuB X W a fa) (hb : PuB X W b fb) : PuT X W (.Compare a [.GtE] [b] pos) (U.tB (e2 gGe fa fb)) := pt_cmp' op_ge gr_IB (nomark _) ha hb
theorem tis_ (ha : PuB X W a fa) (hb : PuB X W b fb) : PuT X W (.Compare a [.Is] [b] pos) (U.tB (e2 gIs fa fb)) := pt_cmp' op_isN gr_is (nomark _) ha hb
theorem tisnt_ (ha : PuB X W a fa) (hb : PuB X W b fb) : PuT X W (.Compare a [.IsNot] [b] pos) (U.tB (e2 gIsnt fa fb)) := pt_cmp' op_notN gr_isnt (nomark _) ha hb
theorem ix_ (ha : PuB X W a fa) (hb : PuB X W b fb) (hs : PlainIx b := by exact fun _ _ => rfl) : PuE X W (.Subscript a b pos) (e2 gIx fa fb) := pu_ix hs ix_U gr_ix ha hb
/-- any other test -/
theorem tv_ (ha : PX X W own a fa) (he : ∀ whole, isTrue a X.env whole = (do let v ← whole; standAt a.pos; holding [v] (truthy v)) := by intro _; rfl) : PuT X W a (tV fa) := pt_v he ha
theorem ac (ha : PX X W own e f) (hs : PAX X W own es fs) (he : starEach (e :: es) X.env = (false, eval e X.env) :: starEach es X.env := by rfl) : PAX X W own (e :: es) (aCons f fs) := pa_cons' ha hs he
section
variable (B : Blt X.mg)
include B
theorem len_ (ha : PuAB X W [e] fs) (hg : Gl X "len" := by rfl) (he : starEach [e] X.env = (false, eval e X.env) :: starEach [] X.env := by rfl) (hpl : (backTo pos (starEach [] X.env)).any (·.1) = false := by rfl) : PuE X W (.Call (.Name "len" p) [e] [] pos) (eK kLen fs) := pu_kb call_len_seq gr_len hg B.len PySem.boot_len (by decide) (by decide) he hpl ha
theorem abs_ (ha : PuAB X W [e] fs) (hg : Gl X "abs" := by rfl) (he : starEach [e] X.env = (false, eval e X.env) :: starEach [] X.env := by rfl) (hpl : (backTo pos (starEach [] X.env)).any (·.1) = false := by rfl) : PuE X W (.Call (.Name "abs" p) [e] [] pos) (eK kAbs fs) := pu_kb call_abs gr_abs hg B.abs PyProof.Rows.boot_abs (by decide) (by decide) he hpl ha
theorem int_ (ha : PuAB X W [e] fs) (hg : Gl X "int" := by rfl) (he : starEach [e] X.env = (false, eval e X.env) :: starEach [] X.env := by rfl) (hpl : (backTo pos (starEach [] X.env)).any (·.1) = false := by rfl) : PuE X W (.Call (.Name "int" p) [e] [] pos) (eK kInt fs) := pu_kt call_int1 gr_int hg B.int PyProof.Rows.boot_int (by decide) (by decide) he hpl ha
theorem list_ (ha : PuAB X W [e] fs) (hg : Gl X "list" := by rfl) (he : starEach [e] X.env = (false, eval e X.env) :: starEach [] X.env := by rfl) (hpl : (backTo pos (starEach [] X.env)).any (·.1) = false := by rfl) : PuE X W (.Call (.Name "list" p) [e] [] pos) (eK kList fs) := pu_kt call_list_of gr_list hg B.list PyProof.Rows.boot_list (by decide) (by decide) he hpl ha
theorem min2_ (hc : X.calm = true) (ha : PuAB X W [a, b] fs) (hg : Gl X "min" := by rfl) (he : starEach [a, b] X.env = (false, eval a X.env) :: starEach [b] X.env := by rfl) (hpl : (backTo pos (starEach [b] X.env)).any (·.1) = false := by rfl) : PuE X W (.Call (.Name "min" p) [a, b] [] pos) (eK kMin2 fs) := pu_kb (call_min2 hc) gr_min2 hg B.min PyProof.Rows.boot_min (by decide) (by decide) he hpl ha
theorem max2_ (hc : X.calm = true) (ha : PuAB X W [a, b] fs) (hg : Gl X "max" := by rfl) (he : starEach [a, b] X.env = (false, eval a X.env) :: starEach [b] X.env := by rfl) (hpl : (backTo pos (starEach [b] X.env)).any (·.1) = false := by rfl) : PuE X W (.Call (.Name "max" p) [a, b] [] pos) (eK kMax2 fs) := pu_kb (call_max2 hc) gr_max2 hg B.max PyProof.Rows.boot_max (by decide) (by decide) he hpl ha
theorem isi_int {p2 : Pos} (ha : PuB X W a fa) (hgI : Gl X "isinstance" := by rfl) (hgT : Gl X "int" := by rfl) (he : starEach [a, .Name "int" p2] X.env = (false, eval a X.env) :: starEach [.Name "int" p2] X.env := by rfl) (he2 : starEach [.Name "int" p2] X.env = (false, eval (.Name "int" p2) X.env) :: starEach [] X.env := by rfl) (hpl : (backTo pos (starEach [.Name "int" p2] X.env)).any (·.1) = false := by rfl) :
    PuE X W (.Call (.Name "isinstance" p) [a, .Name "int" p2] [] pos) (eIsi .int fa) := pu_isi .int hgI B.isinstance hgT B.int PyProof.Rows.boot_int (by decide) (by decide) he he2 hpl ha
theorem isi_bool {p2 : Pos} (ha : PuB X W a fa) (hgI : Gl X "isinstance" := by rfl) (hgT : Gl X "bool" := by rfl) (he : starEach [a, .Name "bool" p2] X.env = (false, eval a X.env) :: starEach [.Name "bool" p2] X.env := by rfl) (he2 : starEach [.Name "bool" p2] X.env = (false, eval (.Name "bool" p2) X.env) :: starEach [] X.env := by rfl) (hpl : (backTo pos (starEach [.Name "bool" p2] X.env)).any (·.1) = false := by rfl) :
    PuE X W (.Call (.Name "isinstance" p) [a, .Name "bool" p2] [] pos) (eIsi .bool fa) := pu_isi .bool hgI B.isinstance hgT B.bool PyProof.Rows.boot_bool (by decide) (by decide) he he2 hpl ha
theorem isi_list {p2 : Pos} (ha : PuB X W a fa) (hgI : Gl X "isinstance" := by rfl) (hgT : Gl X "list" := by rfl) (he : starEach [a, .Name "list" p2] X.env = (false, eval a X.env) :: starEach [.Name "list" p2] X.env := by rfl) (he2 : starEach [.Name "list" p2] X.env = (false, eval (.Name "list" p2) X.env) :: starEach [] X.env := by rfl) (hpl : (backTo pos (starEach [.Name "list" p2] X.env)).any (·.1) = false := by rfl) :
    PuE X W (.Call (.Name "isinstance" p) [a, .Name "list" p2] [] pos) (eIsi .list fa) := pu_isi .list hgI B.isinstance hgT B.list PyProof.Rows.boot_list (by decide) (by decide) he he2 hpl ha
theorem isi_tuple {p2 : Pos} (ha : PuB X W a fa) (hgI : Gl X "isinstance" := by rfl) (hgT : Gl X "tuple" := by rfl) (he : starEach [a, .Name "tuple" p2] X.env = (false, eval a X.env) :: starEach [.Name "tuple" p2] X.env := by rfl) (he2 : starEach [.Name "tuple" p2] X.env = (false, eval (.Name "tuple" p2) X.env) :: starEach [] X.env := by rfl) (hpl : (backTo pos (starEach [.Name "tuple" p2] X.env)).any (·.1) = false := by rfl) :
    PuE X W (.Call (.Name "isinstance" p) [a, .Name "tuple" p2] [] pos) (eIsi .tuple fa) := pu_isi .tuple hgI B.isinstance hgT B.tuple PyProof.Rows.boot_tuple (by decide) (by decide) he he2 hpl ha
theorem r1_ (ha : PuB X W a fa) (hg : Gl X "range" := by rfl) (hs : starEach [a] X.env = [(false, eval a X.env)] := by rfl) : PIX X W True tg (.Call (.Name "range" p) [a] [] pos) (iR1 fa) := pi_r1 hg B.range hs ha
theorem r2_ (ha : PuB X W a fa) (hb : PuB X W b fb) (hg : Gl X "range" := by rfl) (hs : starEach [a, b] X.env = [(false, eval a X.env), (false, eval b X.env)] := by rfl) (hs2 : starEach [b] X.env = [(false, eval b X.env)] := by rfl) : PIX X W True tg (.Call (.Name "range" p) [a, b] [] pos) (iR2 fa fb) := pi_r2 hg B.range hs hs2 ha hb
end
/-- a def's call -/
theorem call_ {x : Str} {k k' n : Nat} {F : List O → Res O} (c : Cal X.prog X.w X.K X.mg X.base x k n F) (hr : Room k' X.A) (tk : Takes X W) (ha : PuAB X W (e :: es) fs) (hk : k ≤ k' := by decide) (hlen : (e :: es).length = n := by rfl) (hg : Gl X x := by rfl) (hdb : (x == ("__debug__" : Str)) = false := by decide)
    (he : starEach (e :: es) X.env = (false, eval e X.env) :: starEach es X.env := by rfl) (hpl : (backTo pos (starEach es X.env)).any (·.1) = false := by rfl) : PuE X W (.Call (.Name x p) (e :: es) [] pos) (eCall F fs) := pu_cal c hr hk tk ha hlen hg hdb he hpl
end
/-! ### targets and statements -/
section
variable {X : Cx} {W : WX} {own : Prop} {e a b c tg it el : Expr} {f fa fb fc : EV} {pos : Pos} {ta tb : EB} {st : Stmt} {sts sts' body : List Stmt} {fs gs : ES} {g : EG} {gl : List EG} {fi : EI} {vs : List Nat} {tgs es : List Expr}
theorem tn (i : Nat) {x : Str} (nd : X.N.Nodup) (hi : X.N[i]? = some x := by rfl) (hx : Loc X.env.scope x := by first | exact Or.inl rfl | exact Or.inr rfl) (hf : X.fn x = true ∨ X.env.scope.names.lookup x = some .local := by first | exact Or.inl rfl | exact Or.inr rfl) : PuG X (.Name x pos) (tN i) := pg_n i nd hi hx hf
theorem tl (i : Nat) {x : Str} (nd : X.N.Nodup) (hi : X.N[i]? = some x := by rfl) (hx : Loc X.env.scope x := by first | exact Or.inl rfl | exact Or.inr rfl) (hf : X.fn x = true ∨ X.env.scope.names.lookup x = some .local := by first | exact Or.inl rfl | exact Or.inr rfl) (hv : i ∈ vs := by decide) : PuL X (.Name x pos) (tNr i) vs := pl_n i nd hi hx hf hv
theorem gc (h : PuG X tg g) (hs : PuGs X tgs gl) (ha : (assignEach (tg :: tgs) X.env).map (·.2) = assign tg X.env :: (assignEach tgs X.env).map (·.2) := by rfl) : PuGs X (tg :: tgs) (g :: gl) := pgs_cons' h hs ha
theorem tt {k n : Nat} (hc : X.calm = true) (h : PuGs X es gl) (hn : (assignEach es X.env).length = n := by rfl) (hst : (assignEach es X.env).findIdx? (·.1) = none := by rfl) (hg : gl.length = n := by rfl) : PuG X (.Tuple es k pos) (tT gl) := pg_t hc h hn hst hg
theorem lc' (h : PuL X tg g vs) (hs : PuLs X tgs gl vs) (ha : (assignEach (tg :: tgs) X.env).map (·.2) = assign tg X.env :: (assignEach tgs X.env).map (·.2) := by rfl) : PuLs X (tg :: tgs) (g :: gl) vs := pls_cons h hs ha
theorem ltt {k n : Nat} (hc : X.calm = true) (h : PuLs X es gl vs) (hn : (assignEach es X.env).length = n := by rfl) (hst : (assignEach es X.env).findIdx? (·.1) = none := by rfl) (hg : gl.length = n := by rfl) : PuL X (.Tuple es k pos) (tT gl) vs := pl_t hc h hn hst hg
theorem asg (he : PuE X W e f) (hg : PuG X tg g) (hs : swapsWithSole [tg] e pos.line X.env = pure false := by rfl) (hw : swappedStores [tg] e X.env = pure none := by rfl) (h1 : (assignEach [tg] X.env).map (·.2) = [assign tg X.env] := by rfl) : PuS X W (.Assign [tg] e pos) (sAsg f g) := ps_asg' hs hw h1 he hg
theorem aug_add (i : Nat) {x : Str} {p' : Pos} (nd : X.N.Nodup) (he : PuB X W e f) (hi : X.N[i]? = some x := by rfl) (hx : Loc X.env.scope x := by first | exact Or.inl rfl | exact Or.inr rfl) (hf : X.fn x = true ∨ X.env.scope.names.lookup x = some .local := by first | exact Or.inl rfl | exact Or.inr rfl) :
    PuS X W (.AugAssign (.Name x p') .Add e pos) (sAug i (fun a b => a + b) f) := ps_aug' i nd hi hx hf ip_add he
theorem app (i : Nat) {x : Str} {p1 p2 p3 : Pos} (he : PuE X W e f) (hN : X.N[i]? = some x := by rfl) (hv : Vis X.env.scope x := by first | exact Or.inl rfl | exact Or.inr (Or.inl rfl) | exact Or.inr (Or.inr rfl)) (hd : (x == ("__debug__" : Str)) = false := by decide) (hcd : (x == ("__classdict__" : Str)) = false := by decide)
    (hs : swapsWith (.Call (.Attribute (.Name x p1) "append" p2) [e] [] p3) none pos.line X.env = pure false := by rfl)
    (hbase : attributeBase (.Name x p1) "append" X.env (eval (.Name x p1) X.env) = eval (.Name x p1) X.env := by rfl)
    (hfew : ((backTo p3 (starEach [e] X.env)).all (fun x => !x.1) && (backToKw p3 (keywordEach [] X.env)).all (fun x => x.1.isSome) && decide ([e].length + ([] : List Keyword).length + (if ([] : List Keyword).isEmpty then 0 else 1) < 30)) = true := by rfl)
    (hline : (p2.endLine == p3.line) = true := by rfl) (hst : starEach [e] X.env = (false, eval e X.env) :: starEach [] X.env := by rfl) (hplain : (backTo p3 (starEach [] X.env)).any (·.1) = false := by rfl) :
    PuS X W (.Expr (.Call (.Attribute (.Name x p1) "append" p2) [e] [] p3) pos) (sApp i f) := ps_app i hN hv hd hcd hs hbase hfew hline hst hplain he
theorem mv (i : Nat) {x : Str} {p : Pos} (hN : X.N[i]? = some x := by rfl) (hv : Vis X.env.scope x := by first | exact Or.inl rfl | exact Or.inr (Or.inl rfl) | exact Or.inr (Or.inr rfl)) (hd : (x == ("__debug__" : Str)) = false := by decide) (hcd : (x == ("__classdict__" : Str)) = false := by decide) : PuS X W (.Return (some (.Name x p)) pos) (sRetMv i) := ps_mv i hN hv hd hcd
theorem drop_ (h : PX X W own e f) (hs : swapsWith e none pos.line X.env = pure false := by rfl) : PuS X W (.Expr e pos) (sDrop f) := ps_drop' hs h
theorem for_ (hp : PassesOwn (model X.prog X.w) X.A X.env X.xe) (hc : X.calm = true) (hi : PIX X W True tg it fi) (hg : PuG X tg g) (hb : PuSs X W body fs) (hs : ∀ x, foldedSetIterable it X.env x = pure x := by intro _; rfl) : PuS X W (.For tg it body [] pos) (sFor fi g fs) := ps_for' hp hc hs hi hg hb
end
/-- where a def stands -/
structure Df (K : PySem.W.Frag) (mg : Str → Option Value) (x : Str) (st : Stmt) (ps : List Str) : Prop where
  ex : ∃ (f : Addr) (fd : FuncData), Fun K x x st f fd ∧ mg x = some (.ref f) ∧ Binds K fd ps []
theorem hu65 {A : Around} {k : Nat} (hr : Room k A) : A.units + 65 < cLine := by
  have := hr.un
  omega
/-- a def's worth from its body -/
theorem calU {P : Program} {w : World} {K : PySem.W.Frag} {mg : Str → Option Value} {base : Heap} {x : Str} {st : Stmt} {N ps : List Str} {k : Nat} {fs : ES} (D : Df K mg x st ps) (Sc : FnScope N ps (defScope st))
    (hb : ∀ (f : Addr) (cdv : Value) (A : Around) (outer : List PySem.Env) (s : Shared) (H : Hp) (E : XK), Room k (A.deeper (PyProof.Rows.envOfC x (defScope st) s.heap.objs.size f cdv)) →
      PuSs (cxOf (L2.CX P w) P w K mg base N x (defScope st) f cdv A outer s H E) (fun cls d _ H => E cls d H) (defBody st) fs) :
    Cal P w K mg base x (k + 1) ps.length (run N.length fs) := by
  obtain ⟨f, fd, F, hm, b⟩ := D.ex
  exact ⟨f, fd, ps, fnU F Sc (hb f), hm, F.kp, b, rfl⟩
/-! ### the law itself -/
def spL (K : PySem.W.Frag) : Sp := fun vs H Q _ => ∃ (a : Addr) (ns : List Int), vs = [.ref a] ∧ Only H ∧ SqL K H a (ns.map V.int) ∧ ns.length ≤ 63 ∧ ∀ H', Q (.bl true) H'
theorem spL_of {K : PySem.W.Frag} {mg : Str → Option Value} {F : List O → Res O} (M : ∀ ns : List Int, ns.length ≤ 63 → F [.s ns] = .ok (.z (.bool true))) : ∀ vs H Q E, spL K vs H Q E → spU K mg 1 F vs H Q E := by
  intro vs H Q E ⟨a, ns, e, on, h, hl, q⟩
  subst e
  refine ⟨fun _ => False, [.s ns], [], fun _ z => z.elim, rfl, ⟨.ref a, [], [], [], rfl, rfl, ⟨rfl, a, rfl, ?_⟩, rfl, rfl⟩, ?_⟩
  · rcases h with (h | ⟨o, h⟩) | h
    · rcases on a with z | ⟨o, xs, z⟩
      · rw [h] at z; cases z
      · rw [h] at z; cases z
    · exact .inl ⟨o, h⟩
    · exact .inr (.inr h)
  · rw [M ns hl]
    intro v H' Z' g _ ho _
    rw [show v = .bl true from ho.2]
    exact q H'
theorem cx_no {P : Program} {w : World} {H : Hp} {s : Shared} {e : Value} {s' : Shared} (h : L2.CX P w [] H s (fun _ _ _ => False) e s') : False := by
  obtain ⟨_, _, _, _, _, _, _, _, _, _, _, _, z⟩ := h
  exact z
end U
end
/-! US -/
section
set_option linter.all false
/-! US: how UD's words reckon (printed by mkus.py, in part). -/
namespace U
open PySem (PyData Str)
@[simp] theorem eVar_w0 {o : O} {r : Env} : eVar 0 (some (.w o) :: r) = .ok o := (rfl)
@[simp] theorem eVar_r0 {o : O} {r : Env} : eVar 0 (some (.r o) :: r) = .ok o := (rfl)
@[simp] theorem tN_0 {o : O} {x : Option Sl} {r : Env} : tN 0 o (x :: r) = some (some (.w o) :: r) := (rfl)
@[simp] theorem tNr_0 {o : O} {x : Option Sl} {r : Env} : tNr 0 o (x :: r) = some (some (lent o) :: r) := (rfl)
@[simp] theorem sRetMv_0 {o : O} {r : Env} : sRetMv 0 (some (.w o) :: r) = .rt o := (rfl)
@[simp] theorem frz_0 {o : O} {r : Env} : frz 0 (some (.w o) :: r) = if nS o then some (.w (.z (strip o))) :: r else some (.w o) :: r := by unfold frz; rfl
@[simp] theorem sApp_0 {os : List O} {r : Env} {e : EV} : sApp 0 e (some (.w (.l os)) :: r) = (e (some (.w (.l os)) :: r)).out (some (.w (.l os)) :: r) fun o => if os.length < lineMax ∧ nS o = true then .nx (some (.w (.l (os ++ [o]))) :: r) else .bad := (rfl)
@[simp] theorem sAug_0 {a : Int} {r : Env} {g : Int → Int → Int} {e : EV} : sAug 0 g e (some (.w (.z (.int a))) :: r) = (e (some (.w (.z (.int a))) :: r)).out (some (.w (.z (.int a))) :: r) fun b => match b with | .z (.int b) => .nx (some (.w (.z (.int (g a b)))) :: r) | _ => .bad := (rfl)
@[simp] theorem eVar_w1 {s0 : Option Sl} {o : O} {r : Env} : eVar 1 (s0 :: some (.w o) :: r) = .ok o := (rfl)
@[simp] theorem eVar_r1 {s0 : Option Sl} {o : O} {r : Env} : eVar 1 (s0 :: some (.r o) :: r) = .ok o := (rfl)
@[simp] theorem tN_1 {s0 : Option Sl} {o : O} {x : Option Sl} {r : Env} : tN 1 o (s0 :: x :: r) = some (s0 :: some (.w o) :: r) := (rfl)
@[simp] theorem tNr_1 {s0 : Option Sl} {o : O} {x : Option Sl} {r : Env} : tNr 1 o (s0 :: x :: r) = some (s0 :: some (lent o) :: r) := (rfl)
@[simp] theorem sRetMv_1 {s0 : Option Sl} {o : O} {r : Env} : sRetMv 1 (s0 :: some (.w o) :: r) = .rt o := (rfl)
@[simp] theorem frz_1 {s0 : Option Sl} {o : O} {r : Env} : frz 1 (s0 :: some (.w o) :: r) = if nS o then s0 :: some (.w (.z (strip o))) :: r else s0 :: some (.w o) :: r := by unfold frz; rfl
@[simp] theorem sApp_1 {s0 : Option Sl} {os : List O} {r : Env} {e : EV} : sApp 1 e (s0 :: some (.w (.l os)) :: r) = (e (s0 :: some (.w (.l os)) :: r)).out (s0 :: some (.w (.l os)) :: r) fun o => if os.length < lineMax ∧ nS o = true then .nx (s0 :: some (.w (.l (os ++ [o]))) :: r) else .bad := (rfl)
@[simp] theorem sAug_1 {s0 : Option Sl} {a : Int} {r : Env} {g : Int → Int → Int} {e : EV} : sAug 1 g e (s0 :: some (.w (.z (.int a))) :: r) = (e (s0 :: some (.w (.z (.int a))) :: r)).out (s0 :: some (.w (.z (.int a))) :: r) fun b => match b with | .z (.int b) => .nx (s0 :: some (.w (.z (.int (g a b)))) :: r) | _ => .bad := (rfl)
@[simp] theorem eVar_w2 {s0 s1 : Option Sl} {o : O} {r : Env} : eVar 2 (s0 :: s1 :: some (.w o) :: r) = .ok o := (rfl)
@[simp] theorem eVar_r2 {s0 s1 : Option Sl} {o : O} {r : Env} : eVar 2 (s0 :: s1 :: some (.r o) :: r) = .ok o := (rfl)
@[simp] theorem tN_2 {s0 s1 : Option Sl} {o : O} {x : Option Sl} {r : Env} : tN 2 o (s0 :: s1 :: x :: r) = some (s0 :: s1 :: some (.w o) :: r) := (rfl)
@[simp] theorem tNr_2 {s0 s1 : Option Sl} {o : O} {x : Option Sl} {r : Env} : tNr 2 o (s0 :: s1 :: x :: r) = some (s0 :: s1 :: some (lent o) :: r) := (rfl)
@[simp] theorem sRetMv_2 {s0 s1 : Option Sl} {o : O} {r : Env} : sRetMv 2 (s0 :: s1 :: some (.w o) :: r) = .rt o := (rfl)
@[simp] theorem frz_2 {s0 s1 : Option Sl} {o : O} {r : Env} : frz 2 (s0 :: s1 :: some (.w o) :: r) = if nS o then s0 :: s1 :: some (.w (.z (strip o))) :: r else s0 :: s1 :: some (.w o) :: r := by unfold frz; rfl
@[simp] theorem sApp_2 {s0 s1 : Option Sl} {os : List O} {r : Env} {e : EV} : sApp 2 e (s0 :: s1 :: some (.w (.l os)) :: r) = (e (s0 :: s1 :: some (.w (.l os)) :: r)).out (s0 :: s1 :: some (.w (.l os)) :: r) fun o => if os.length < lineMax ∧ nS o = true then .nx (s0 :: s1 :: some (.w (.l (os ++ [o]))) :: r) else .bad := (rfl)
@[simp] theorem sAug_2 {s0 s1 : Option Sl} {a : Int} {r : Env} {g : Int → Int → Int} {e : EV} : sAug 2 g e (s0 :: s1 :: some (.w (.z (.int a))) :: r) = (e (s0 :: s1 :: some (.w (.z (.int a))) :: r)).out (s0 :: s1 :: some (.w (.z (.int a))) :: r) fun b => match b with | .z (.int b) => .nx (s0 :: s1 :: some (.w (.z (.int (g a b)))) :: r) | _ => .bad := (rfl)
@[simp] theorem eVar_w3 {s0 s1 s2 : Option Sl} {o : O} {r : Env} : eVar 3 (s0 :: s1 :: s2 :: some (.w o) :: r) = .ok o := (rfl)
@[simp] theorem eVar_r3 {s0 s1 s2 : Option Sl} {o : O} {r : Env} : eVar 3 (s0 :: s1 :: s2 :: some (.r o) :: r) = .ok o := (rfl)
@[simp] theorem tN_3 {s0 s1 s2 : Option Sl} {o : O} {x : Option Sl} {r : Env} : tN 3 o (s0 :: s1 :: s2 :: x :: r) = some (s0 :: s1 :: s2 :: some (.w o) :: r) := (rfl)
@[simp] theorem tNr_3 {s0 s1 s2 : Option Sl} {o : O} {x : Option Sl} {r : Env} : tNr 3 o (s0 :: s1 :: s2 :: x :: r) = some (s0 :: s1 :: s2 :: some (lent o) :: r) := (rfl)
@[simp] theorem sRetMv_3 {s0 s1 s2 : Option Sl} {o : O} {r : Env} : sRetMv 3 (s0 :: s1 :: s2 :: some (.w o) :: r) = .rt o := (rfl)
@[simp] theorem frz_3 {s0 s1 s2 : Option Sl} {o : O} {r : Env} : frz 3 (s0 :: s1 :: s2 :: some (.w o) :: r) = if nS o then s0 :: s1 :: s2 :: some (.w (.z (strip o))) :: r else s0 :: s1 :: s2 :: some (.w o) :: r := by unfold frz; rfl
@[simp] theorem sApp_3 {s0 s1 s2 : Option Sl} {os : List O} {r : Env} {e : EV} : sApp 3 e (s0 :: s1 :: s2 :: some (.w (.l os)) :: r) = (e (s0 :: s1 :: s2 :: some (.w (.l os)) :: r)).out (s0 :: s1 :: s2 :: some (.w (.l os)) :: r) fun o => if os.length < lineMax ∧ nS o = true then .nx (s0 :: s1 :: s2 :: some (.w (.l (os ++ [o]))) :: r) else .bad := (rfl)
@[simp] theorem sAug_3 {s0 s1 s2 : Option Sl} {a : Int} {r : Env} {g : Int → Int → Int} {e : EV} : sAug 3 g e (s0 :: s1 :: s2 :: some (.w (.z (.int a))) :: r) = (e (s0 :: s1 :: s2 :: some (.w (.z (.int a))) :: r)).out (s0 :: s1 :: s2 :: some (.w (.z (.int a))) :: r) fun b => match b with | .z (.int b) => .nx (s0 :: s1 :: s2 :: some (.w (.z (.int (g a b)))) :: r) | _ => .bad := (rfl)
@[simp] theorem eVar_w4 {s0 s1 s2 s3 : Option Sl} {o : O} {r : Env} : eVar 4 (s0 :: s1 :: s2 :: s3 :: some (.w o) :: r) = .ok o := (rfl)
@[simp] theorem eVar_r4 {s0 s1 s2 s3 : Option Sl} {o : O} {r : Env} : eVar 4 (s0 :: s1 :: s2 :: s3 :: some (.r o) :: r) = .ok o := (rfl)
@[simp] theorem tN_4 {s0 s1 s2 s3 : Option Sl} {o : O} {x : Option Sl} {r : Env} : tN 4 o (s0 :: s1 :: s2 :: s3 :: x :: r) = some (s0 :: s1 :: s2 :: s3 :: some (.w o) :: r) := (rfl)
@[simp] theorem tNr_4 {s0 s1 s2 s3 : Option Sl} {o : O} {x : Option Sl} {r : Env} : tNr 4 o (s0 :: s1 :: s2 :: s3 :: x :: r) = some (s0 :: s1 :: s2 :: s3 :: some (lent o) :: r) := (rfl)
@[simp] theorem sRetMv_4 {s0 s1 s2 s3 : Option Sl} {o : O} {r : Env} : sRetMv 4 (s0 :: s1 :: s2 :: s3 :: some (.w o) :: r) = .rt o := (rfl)
@[simp] theorem frz_4 {s0 s1 s2 s3 : Option Sl} {o : O} {r : Env} : frz 4 (s0 :: s1 :: s2 :: s3 :: some (.w o) :: r) = if nS o then s0 :: s1 :: s2 :: s3 :: some (.w (.z (strip o))) :: r else s0 :: s1 :: s2 :: s3 :: some (.w o) :: r := by unfold frz; rfl
@[simp] theorem sApp_4 {s0 s1 s2 s3 : Option Sl} {os : List O} {r : Env} {e : EV} : sApp 4 e (s0 :: s1 :: s2 :: s3 :: some (.w (.l os)) :: r) = (e (s0 :: s1 :: s2 :: s3 :: some (.w (.l os)) :: r)).out (s0 :: s1 :: s2 :: s3 :: some (.w (.l os)) :: r) fun o => if os.length < lineMax ∧ nS o = true then .nx (s0 :: s1 :: s2 :: s3 :: some (.w (.l (os ++ [o]))) :: r) else .bad := (rfl)
@[simp] theorem sAug_4 {s0 s1 s2 s3 : Option Sl} {a : Int} {r : Env} {g : Int → Int → Int} {e : EV} : sAug 4 g e (s0 :: s1 :: s2 :: s3 :: some (.w (.z (.int a))) :: r) = (e (s0 :: s1 :: s2 :: s3 :: some (.w (.z (.int a))) :: r)).out (s0 :: s1 :: s2 :: s3 :: some (.w (.z (.int a))) :: r) fun b => match b with | .z (.int b) => .nx (s0 :: s1 :: s2 :: s3 :: some (.w (.z (.int (g a b)))) :: r) | _ => .bad := (rfl)
@[simp] theorem eVar_w5 {s0 s1 s2 s3 s4 : Option Sl} {o : O} {r : Env} : eVar 5 (s0 :: s1 :: s2 :: s3 :: s4 :: some (.w o) :: r) = .ok o := (rfl)
@[simp] theorem eVar_r5 {s0 s1 s2 s3 s4 : Option Sl} {o : O} {r : Env} : eVar 5 (s0 :: s1 :: s2 :: s3 :: s4 :: some (.r o) :: r) = .ok o := (rfl)
@[simp] theorem tN_5 {s0 s1 s2 s3 s4 : Option Sl} {o : O} {x : Option Sl} {r : Env} : tN 5 o (s0 :: s1 :: s2 :: s3 :: s4 :: x :: r) = some (s0 :: s1 :: s2 :: s3 :: s4 :: some (.w o) :: r) := (rfl)
@[simp] theorem tNr_5 {s0 s1 s2 s3 s4 : Option Sl} {o : O} {x : Option Sl} {r : Env} : tNr 5 o (s0 :: s1 :: s2 :: s3 :: s4 :: x :: r) = some (s0 :: s1 :: s2 :: s3 :: s4 :: some (lent o) :: r) := (rfl)
@[simp] theorem sRetMv_5 {s0 s1 s2 s3 s4 : Option Sl} {o : O} {r : Env} : sRetMv 5 (s0 :: s1 :: s2 :: s3 :: s4 :: some (.w o) :: r) = .rt o := (rfl)
@[simp] theorem frz_5 {s0 s1 s2 s3 s4 : Option Sl} {o : O} {r : Env} : frz 5 (s0 :: s1 :: s2 :: s3 :: s4 :: some (.w o) :: r) = if nS o then s0 :: s1 :: s2 :: s3 :: s4 :: some (.w (.z (strip o))) :: r else s0 :: s1 :: s2 :: s3 :: s4 :: some (.w o) :: r := by unfold frz; rfl
@[simp] theorem sApp_5 {s0 s1 s2 s3 s4 : Option Sl} {os : List O} {r : Env} {e : EV} : sApp 5 e (s0 :: s1 :: s2 :: s3 :: s4 :: some (.w (.l os)) :: r) = (e (s0 :: s1 :: s2 :: s3 :: s4 :: some (.w (.l os)) :: r)).out (s0 :: s1 :: s2 :: s3 :: s4 :: some (.w (.l os)) :: r) fun o => if os.length < lineMax ∧ nS o = true then .nx (s0 :: s1 :: s2 :: s3 :: s4 :: some (.w (.l (os ++ [o]))) :: r) else .bad := (rfl)
@[simp] theorem sAug_5 {s0 s1 s2 s3 s4 : Option Sl} {a : Int} {r : Env} {g : Int → Int → Int} {e : EV} : sAug 5 g e (s0 :: s1 :: s2 :: s3 :: s4 :: some (.w (.z (.int a))) :: r) = (e (s0 :: s1 :: s2 :: s3 :: s4 :: some (.w (.z (.int a))) :: r)).out (s0 :: s1 :: s2 :: s3 :: s4 :: some (.w (.z (.int a))) :: r) fun b => match b with | .z (.int b) => .nx (s0 :: s1 :: s2 :: s3 :: s4 :: some (.w (.z (.int (g a b)))) :: r) | _ => .bad := (rfl)
@[simp] theorem eVar_w6 {s0 s1 s2 s3 s4 s5 : Option Sl} {o : O} {r : Env} : eVar 6 (s0 :: s1 :: s2 :: s3 :: s4 :: s5 :: some (.w o) :: r) = .ok o := (rfl)
@[simp] theorem eVar_r6 {s0 s1 s2 s3 s4 s5 : Option Sl} {o : O} {r : Env} : eVar 6 (s0 :: s1 :: s2 :: s3 :: s4 :: s5 :: some (.r o) :: r) = .ok o := (rfl)
@[simp] theorem tN_6 {s0 s1 s2 s3 s4 s5 : Option Sl} {o : O} {x : Option Sl} {r : Env} : tN 6 o (s0 :: s1 :: s2 :: s3 :: s4 :: s5 :: x :: r) = some (s0 :: s1 :: s2 :: s3 :: s4 :: s5 :: some (.w o) :: r) := (rfl)
@[simp] theorem tNr_6 {s0 s1 s2 s3 s4 s5 : Option Sl} {o : O} {x : Option Sl} {r : Env} : tNr 6 o (s0 :: s1 :: s2 :: s3 :: s4 :: s5 :: x :: r) = some (s0 :: s1 :: s2 :: s3 :: s4 :: s5 :: some (lent o) :: r) := (rfl)
@[simp] theorem sRetMv_6 {s0 s1 s2 s3 s4 s5 : Option Sl} {o : O} {r : Env} : sRetMv 6 (s0 :: s1 :: s2 :: s3 :: s4 :: s5 :: some (.w o) :: r) = .rt o := (rfl)
@[simp] theorem frz_6 {s0 s1 s2 s3 s4 s5 : Option Sl} {o : O} {r : Env} : frz 6 (s0 :: s1 :: s2 :: s3 :: s4 :: s5 :: some (.w o) :: r) = if nS o then s0 :: s1 :: s2 :: s3 :: s4 :: s5 :: some (.w (.z (strip o))) :: r else s0 :: s1 :: s2 :: s3 :: s4 :: s5 :: some (.w o) :: r := by unfold frz; rfl
@[simp] theorem sApp_6 {s0 s1 s2 s3 s4 s5 : Option Sl} {os : List O} {r : Env} {e : EV} : sApp 6 e (s0 :: s1 :: s2 :: s3 :: s4 :: s5 :: some (.w (.l os)) :: r) = (e (s0 :: s1 :: s2 :: s3 :: s4 :: s5 :: some (.w (.l os)) :: r)).out (s0 :: s1 :: s2 :: s3 :: s4 :: s5 :: some (.w (.l os)) :: r) fun o => if os.length < lineMax ∧ nS o = true then .nx (s0 :: s1 :: s2 :: s3 :: s4 :: s5 :: some (.w (.l (os ++ [o]))) :: r) else .bad := (rfl)
@[simp] theorem sAug_6 {s0 s1 s2 s3 s4 s5 : Option Sl} {a : Int} {r : Env} {g : Int → Int → Int} {e : EV} : sAug 6 g e (s0 :: s1 :: s2 :: s3 :: s4 :: s5 :: some (.w (.z (.int a))) :: r) = (e (s0 :: s1 :: s2 :: s3 :: s4 :: s5 :: some (.w (.z (.int a))) :: r)).out (s0 :: s1 :: s2 :: s3 :: s4 :: s5 :: some (.w (.z (.int a))) :: r) fun b => match b with | .z (.int b) => .nx (s0 :: s1 :: s2 :: s3 :: s4 :: s5 :: some (.w (.z (.int (g a b)))) :: r) | _ => .bad := (rfl)
@[simp] theorem eVar_w7 {s0 s1 s2 s3 s4 s5 s6 : Option Sl} {o : O} {r : Env} : eVar 7 (s0 :: s1 :: s2 :: s3 :: s4 :: s5 :: s6 :: some (.w o) :: r) = .ok o := (rfl)
@[simp] theorem eVar_r7 {s0 s1 s2 s3 s4 s5 s6 : Option Sl} {o : O} {r : Env} : eVar 7 (s0 :: s1 :: s2 :: s3 :: s4 :: s5 :: s6 :: some (.r o) :: r) = .ok o := (rfl)
@[simp] theorem tN_7 {s0 s1 s2 s3 s4 s5 s6 : Option Sl} {o : O} {x : Option Sl} {r : Env} : tN 7 o (s0 :: s1 :: s2 :: s3 :: s4 :: s5 :: s6 :: x :: r) = some (s0 :: s1 :: s2 :: s3 :: s4 :: s5 :: s6 :: some (.w o) :: r) := (rfl)
@[simp] theorem tNr_7 {s0 s1 s2 s3 s4 s5 s6 : Option Sl} {o : O} {x : Option Sl} {r : Env} : tNr 7 o (s0 :: s1 :: s2 :: s3 :: s4 :: s5 :: s6 :: x :: r) = some (s0 :: s1 :: s2 :: s3 :: s4 :: s5 :: s6 :: some (lent o) :: r) := (rfl)
@[simp] theorem sRetMv_7 {s0 s1 s2 s3 s4 s5 s6 : Option Sl} {o : O} {r : Env} : sRetMv 7 (s0 :: s1 :: s2 :: s3 :: s4 :: s5 :: s6 :: some (.w o) :: r) = .rt o := (rfl)
@[simp] theorem frz_7 {s0 s1 s2 s3 s4 s5 s6 : Option Sl} {o : O} {r : Env} : frz 7 (s0 :: s1 :: s2 :: s3 :: s4 :: s5 :: s6 :: some (.w o) :: r) = if nS o then s0 :: s1 :: s2 :: s3 :: s4 :: s5 :: s6 :: some (.w (.z (strip o))) :: r else s0 :: s1 :: s2 :: s3 :: s4 :: s5 :: s6 :: some (.w o) :: r := by unfold frz; rfl
@[simp] theorem sApp_7 {s0 s1 s2 s3 s4 s5 s6 : Option Sl} {os : List O} {r : Env} {e : EV} : sApp 7 e (s0 :: s1 :: s2 :: s3 :: s4 :: s5 :: s6 :: some (.w (.l os)) :: r) = (e (s0 :: s1 :: s2 :: s3 :: s4 :: s5 :: s6 :: some (.w (.l os)) :: r)).out (s0 :: s1 :: s2 :: s3 :: s4 :: s5 :: s6 :: some (.w (.l os)) :: r) fun o => if os.length < lineMax ∧ nS o = true then .nx (s0 :: s1 :: s2 :: s3 :: s4 :: s5 :: s6 :: some (.w (.l (os ++ [o]))) :: r) else .bad := (rfl)
@[simp] theorem sAug_7 {s0 s1 s2 s3 s4 s5 s6 : Option Sl} {a : Int} {r : Env} {g : Int → Int → Int} {e : EV} : sAug 7 g e (s0 :: s1 :: s2 :: s3 :: s4 :: s5 :: s6 :: some (.w (.z (.int a))) :: r) = (e (s0 :: s1 :: s2 :: s3 :: s4 :: s5 :: s6 :: some (.w (.z (.int a))) :: r)).out (s0 :: s1 :: s2 :: s3 :: s4 :: s5 :: s6 :: some (.w (.z (.int a))) :: r) fun b => match b with | .z (.int b) => .nx (s0 :: s1 :: s2 :: s3 :: s4 :: s5 :: s6 :: some (.w (.z (.int (g a b)))) :: r) | _ => .bad := (rfl)
@[simp] theorem eVar_w8 {s0 s1 s2 s3 s4 s5 s6 s7 : Option Sl} {o : O} {r : Env} : eVar 8 (s0 :: s1 :: s2 :: s3 :: s4 :: s5 :: s6 :: s7 :: some (.w o) :: r) = .ok o := (rfl)
@[simp] theorem eVar_r8 {s0 s1 s2 s3 s4 s5 s6 s7 : Option Sl} {o : O} {r : Env} : eVar 8 (s0 :: s1 :: s2 :: s3 :: s4 :: s5 :: s6 :: s7 :: some (.r o) :: r) = .ok o := (rfl)
@[simp] theorem tN_8 {s0 s1 s2 s3 s4 s5 s6 s7 : Option Sl} {o : O} {x : Option Sl} {r : Env} : tN 8 o (s0 :: s1 :: s2 :: s3 :: s4 :: s5 :: s6 :: s7 :: x :: r) = some (s0 :: s1 :: s2 :: s3 :: s4 :: s5 :: s6 :: s7 :: some (.w o) :: r) := (rfl)
@[simp] theorem tNr_8 {s0 s1 s2 s3 s4 s5 s6 s7 : Option Sl} {o : O} {x : Option Sl} {r : Env} : tNr 8 o (s0 :: s1 :: s2 :: s3 :: s4 :: s5 :: s6 :: s7 :: x :: r) = some (s0 :: s1 :: s2 :: s3 :: s4 :: s5 :: s6 :: s7 :: some (lent o) :: r) := (rfl)
@[simp] theorem sRetMv_8 {s0 s1 s2 s3 s4 s5 s6 s7 : Option Sl} {o : O} {r : Env} : sRetMv 8 (s0 :: s1 :: s2 :: s3 :: s4 :: s5 :: s6 :: s7 :: some (.w o) :: r) = .rt o := (rfl)
@[simp] theorem frz_8 {s0 s1 s2 s3 s4 s5 s6 s7 : Option Sl} {o : O} {r : Env} : frz 8 (s0 :: s1 :: s2 :: s3 :: s4 :: s5 :: s6 :: s7 :: some (.w o) :: r) = if nS o then s0 :: s1 :: s2 :: s3 :: s4 :: s5 :: s6 :: s7 :: some (.w (.z (strip o))) :: r else s0 :: s1 :: s2 :: s3 :: s4 :: s5 :: s6 :: s7 :: some (.w o) :: r := by unfold frz; rfl
@[simp] theorem sApp_8 {s0 s1 s2 s3 s4 s5 s6 s7 : Option Sl} {os : List O} {r : Env} {e : EV} : sApp 8 e (s0 :: s1 :: s2 :: s3 :: s4 :: s5 :: s6 :: s7 :: some (.w (.l os)) :: r) = (e (s0 :: s1 :: s2 :: s3 :: s4 :: s5 :: s6 :: s7 :: some (.w (.l os)) :: r)).out (s0 :: s1 :: s2 :: s3 :: s4 :: s5 :: s6 :: s7 :: some (.w (.l os)) :: r) fun o => if os.length < lineMax ∧ nS o = true then .nx (s0 :: s1 :: s2 :: s3 :: s4 :: s5 :: s6 :: s7 :: some (.w (.l (os ++ [o]))) :: r) else .bad := (rfl)
@[simp] theorem sAug_8 {s0 s1 s2 s3 s4 s5 s6 s7 : Option Sl} {a : Int} {r : Env} {g : Int → Int → Int} {e : EV} : sAug 8 g e (s0 :: s1 :: s2 :: s3 :: s4 :: s5 :: s6 :: s7 :: some (.w (.z (.int a))) :: r) = (e (s0 :: s1 :: s2 :: s3 :: s4 :: s5 :: s6 :: s7 :: some (.w (.z (.int a))) :: r)).out (s0 :: s1 :: s2 :: s3 :: s4 :: s5 :: s6 :: s7 :: some (.w (.z (.int a))) :: r) fun b => match b with | .z (.int b) => .nx (s0 :: s1 :: s2 :: s3 :: s4 :: s5 :: s6 :: s7 :: some (.w (.z (.int (g a b)))) :: r) | _ => .bad := (rfl)
@[simp] theorem eVar_w9 {s0 s1 s2 s3 s4 s5 s6 s7 s8 : Option Sl} {o : O} {r : Env} : eVar 9 (s0 :: s1 :: s2 :: s3 :: s4 :: s5 :: s6 :: s7 :: s8 :: some (.w o) :: r) = .ok o := (rfl)
@[simp] theorem eVar_r9 {s0 s1 s2 s3 s4 s5 s6 s7 s8 : Option Sl} {o : O} {r : Env} : eVar 9 (s0 :: s1 :: s2 :: s3 :: s4 :: s5 :: s6 :: s7 :: s8 :: some (.r o) :: r) = .ok o := (rfl)
@[simp] theorem tN_9 {s0 s1 s2 s3 s4 s5 s6 s7 s8 : Option Sl} {o : O} {x : Option Sl} {r : Env} : tN 9 o (s0 :: s1 :: s2 :: s3 :: s4 :: s5 :: s6 :: s7 :: s8 :: x :: r) = some (s0 :: s1 :: s2 :: s3 :: s4 :: s5 :: s6 :: s7 :: s8 :: some (.w o) :: r) := (rfl)
@[simp] theorem tNr_9 {s0 s1 s2 s3 s4 s5 s6 s7 s8 : Option Sl} {o : O} {x : Option Sl} {r : Env} : tNr 9 o (s0 :: s1 :: s2 :: s3 :: s4 :: s5 :: s6 :: s7 :: s8 :: x :: r) = some (s0 :: s1 :: s2 :: s3 :: s4 :: s5 :: s6 :: s7 :: s8 :: some (lent o) :: r) := (rfl)
@[simp] theorem sRetMv_9 {s0 s1 s2 s3 s4 s5 s6 s7 s8 : Option Sl} {o : O} {r : Env} : sRetMv 9 (s0 :: s1 :: s2 :: s3 :: s4 :: s5 :: s6 :: s7 :: s8 :: some (.w o) :: r) = .rt o := (rfl)
@[simp] theorem frz_9 {s0 s1 s2 s3 s4 s5 s6 s7 s8 : Option Sl} {o : O} {r : Env} : frz 9 (s0 :: s1 :: s2 :: s3 :: s4 :: s5 :: s6 :: s7 :: s8 :: some (.w o) :: r) = if nS o then s0 :: s1 :: s2 :: s3 :: s4 :: s5 :: s6 :: s7 :: s8 :: some (.w (.z (strip o))) :: r else s0 :: s1 :: s2 :: s3 :: s4 :: s5 :: s6 :: s7 :: s8 :: some (.w o) :: r := by unfold frz; rfl
@[simp] theorem sApp_9 {s0 s1 s2 s3 s4 s5 s6 s7 s8 : Option Sl} {os : List O} {r : Env} {e : EV} : sApp 9 e (s0 :: s1 :: s2 :: s3 :: s4 :: s5 :: s6 :: s7 :: s8 :: some (.w (.l os)) :: r) = (e (s0 :: s1 :: s2 :: s3 :: s4 :: s5 :: s6 :: s7 :: s8 :: some (.w (.l os)) :: r)).out (s0 :: s1 :: s2 :: s3 :: s4 :: s5 :: s6 :: s7 :: s8 :: some (.w (.l os)) :: r) fun o => if os.length < lineMax ∧ nS o = true then .nx (s0 :: s1 :: s2 :: s3 :: s4 :: s5 :: s6 :: s7 :: s8 :: some (.w (.l (os ++ [o]))) :: r) else .bad := (rfl)
@[simp] theorem sAug_9 {s0 s1 s2 s3 s4 s5 s6 s7 s8 : Option Sl} {a : Int} {r : Env} {g : Int → Int → Int} {e : EV} : sAug 9 g e (s0 :: s1 :: s2 :: s3 :: s4 :: s5 :: s6 :: s7 :: s8 :: some (.w (.z (.int a))) :: r) = (e (s0 :: s1 :: s2 :: s3 :: s4 :: s5 :: s6 :: s7 :: s8 :: some (.w (.z (.int a))) :: r)).out (s0 :: s1 :: s2 :: s3 :: s4 :: s5 :: s6 :: s7 :: s8 :: some (.w (.z (.int a))) :: r) fun b => match b with | .z (.int b) => .nx (s0 :: s1 :: s2 :: s3 :: s4 :: s5 :: s6 :: s7 :: s8 :: some (.w (.z (.int (g a b)))) :: r) | _ => .bad := (rfl)
@[simp] theorem eVar_w10 {s0 s1 s2 s3 s4 s5 s6 s7 s8 s9 : Option Sl} {o : O} {r : Env} : eVar 10 (s0 :: s1 :: s2 :: s3 :: s4 :: s5 :: s6 :: s7 :: s8 :: s9 :: some (.w o) :: r) = .ok o := (rfl)
@[simp] theorem eVar_r10 {s0 s1 s2 s3 s4 s5 s6 s7 s8 s9 : Option Sl} {o : O} {r : Env} : eVar 10 (s0 :: s1 :: s2 :: s3 :: s4 :: s5 :: s6 :: s7 :: s8 :: s9 :: some (.r o) :: r) = .ok o := (rfl)
@[simp] theorem tN_10 {s0 s1 s2 s3 s4 s5 s6 s7 s8 s9 : Option Sl} {o : O} {x : Option Sl} {r : Env} : tN 10 o (s0 :: s1 :: s2 :: s3 :: s4 :: s5 :: s6 :: s7 :: s8 :: s9 :: x :: r) = some (s0 :: s1 :: s2 :: s3 :: s4 :: s5 :: s6 :: s7 :: s8 :: s9 :: some (.w o) :: r) := (rfl)
@[simp] theorem tNr_10 {s0 s1 s2 s3 s4 s5 s6 s7 s8 s9 : Option Sl} {o : O} {x : Option Sl} {r : Env} : tNr 10 o (s0 :: s1 :: s2 :: s3 :: s4 :: s5 :: s6 :: s7 :: s8 :: s9 :: x :: r) = some (s0 :: s1 :: s2 :: s3 :: s4 :: s5 :: s6 :: s7 :: s8 :: s9 :: some (lent o) :: r) := (rfl)
@[simp] theorem sRetMv_10 {s0 s1 s2 s3 s4 s5 s6 s7 s8 s9 : Option Sl} {o : O} {r : Env} : sRetMv 10 (s0 :: s1 :: s2 :: s3 :: s4 :: s5 :: s6 :: s7 :: s8 :: s9 :: some (.w o) :: r) = .rt o := (rfl)
@[simp] theorem frz_10 {s0 s1 s2 s3 s4 s5 s6 s7 s8 s9 : Option Sl} {o : O} {r : Env} : frz 10 (s0 :: s1 :: s2 :: s3 :: s4 :: s5 :: s6 :: s7 :: s8 :: s9 :: some (.w o) :: r) = if nS o then s0 :: s1 :: s2 :: s3 :: s4 :: s5 :: s6 :: s7 :: s8 :: s9 :: some (.w (.z (strip o))) :: r else s0 :: s1 :: s2 :: s3 :: s4 :: s5 :: s6 :: s7 :: s8 :: s9 :: some (.w o) :: r := by unfold frz; rfl
@[simp] theorem sApp_10 {s0 s1 s2 s3 s4 s5 s6 s7 s8 s9 : Option Sl} {os : List O} {r : Env} {e : EV} : sApp 10 e (s0 :: s1 :: s2 :: s3 :: s4 :: s5 :: s6 :: s7 :: s8 :: s9 :: some (.w (.l os)) :: r) = (e (s0 :: s1 :: s2 :: s3 :: s4 :: s5 :: s6 :: s7 :: s8 :: s9 :: some (.w (.l os)) :: r)).out (s0 :: s1 :: s2 :: s3 :: s4 :: s5 :: s6 :: s7 :: s8 :: s9 :: some (.w (.l os)) :: r) fun o => if os.length < lineMax ∧ nS o = true then .nx (s0 :: s1 :: s2 :: s3 :: s4 :: s5 :: s6 :: s7 :: s8 :: s9 :: some (.w (.l (os ++ [o]))) :: r) else .bad := (rfl)
@[simp] theorem sAug_10 {s0 s1 s2 s3 s4 s5 s6 s7 s8 s9 : Option Sl} {a : Int} {r : Env} {g : Int → Int → Int} {e : EV} : sAug 10 g e (s0 :: s1 :: s2 :: s3 :: s4 :: s5 :: s6 :: s7 :: s8 :: s9 :: some (.w (.z (.int a))) :: r) = (e (s0 :: s1 :: s2 :: s3 :: s4 :: s5 :: s6 :: s7 :: s8 :: s9 :: some (.w (.z (.int a))) :: r)).out (s0 :: s1 :: s2 :: s3 :: s4 :: s5 :: s6 :: s7 :: s8 :: s9 :: some (.w (.z (.int a))) :: r) fun b => match b with | .z (.int b) => .nx (s0 :: s1 :: s2 :: s3 :: s4 :: s5 :: s6 :: s7 :: s8 :: s9 :: some (.w (.z (.int (g a b)))) :: r) | _ => .bad := (rfl)
@[simp] theorem eVar_w11 {s0 s1 s2 s3 s4 s5 s6 s7 s8 s9 s10 : Option Sl} {o : O} {r : Env} : eVar 11 (s0 :: s1 :: s2 :: s3 :: s4 :: s5 :: s6 :: s7 :: s8 :: s9 :: s10 :: some (.w o) :: r) = .ok o := (rfl)
@[simp] theorem eVar_r11 {s0 s1 s2 s3 s4 s5 s6 s7 s8 s9 s10 : Option Sl} {o : O} {r : Env} : eVar 11 (s0 :: s1 :: s2 :: s3 :: s4 :: s5 :: s6 :: s7 :: s8 :: s9 :: s10 :: some (.r o) :: r) = .ok o := (rfl)
@[simp] theorem tN_11 {s0 s1 s2 s3 s4 s5 s6 s7 s8 s9 s10 : Option Sl} {o : O} {x : Option Sl} {r : Env} : tN 11 o (s0 :: s1 :: s2 :: s3 :: s4 :: s5 :: s6 :: s7 :: s8 :: s9 :: s10 :: x :: r) = some (s0 :: s1 :: s2 :: s3 :: s4 :: s5 :: s6 :: s7 :: s8 :: s9 :: s10 :: some (.w o) :: r) := (rfl)
@[simp] theorem tNr_11 {s0 s1 s2 s3 s4 s5 s6 s7 s8 s9 s10 : Option Sl} {o : O} {x : Option Sl} {r : Env} : tNr 11 o (s0 :: s1 :: s2 :: s3 :: s4 :: s5 :: s6 :: s7 :: s8 :: s9 :: s10 :: x :: r) = some (s0 :: s1 :: s2 :: s3 :: s4 :: s5 :: s6 :: s7 :: s8 :: s9 :: s10 :: some (lent o) :: r) := (rfl)
@[simp] theorem sRetMv_11 {s0 s1 s2 s3 s4 s5 s6 s7 s8 s9 s10 : Option Sl} {o : O} {r : Env} : sRetMv 11 (s0 :: s1 :: s2 :: s3 :: s4 :: s5 :: s6 :: s7 :: s8 :: s9 :: s10 :: some (.w o) :: r) = .rt o := (rfl)
@[simp] theorem frz_11 {s0 s1 s2 s3 s4 s5 s6 s7 s8 s9 s10 : Option Sl} {o : O} {r : Env} : frz 11 (s0 :: s1 :: s2 :: s3 :: s4 :: s5 :: s6 :: s7 :: s8 :: s9 :: s10 :: some (.w o) :: r) = if nS o then s0 :: s1 :: s2 :: s3 :: s4 :: s5 :: s6 :: s7 :: s8 :: s9 :: s10 :: some (.w (.z (strip o))) :: r else s0 :: s1 :: s2 :: s3 :: s4 :: s5 :: s6 :: s7 :: s8 :: s9 :: s10 :: some (.w o) :: r := by unfold frz; rfl
@[simp] theorem sApp_11 {s0 s1 s2 s3 s4 s5 s6 s7 s8 s9 s10 : Option Sl} {os : List O} {r : Env} {e : EV} : sApp 11 e (s0 :: s1 :: s2 :: s3 :: s4 :: s5 :: s6 :: s7 :: s8 :: s9 :: s10 :: some (.w (.l os)) :: r) = (e (s0 :: s1 :: s2 :: s3 :: s4 :: s5 :: s6 :: s7 :: s8 :: s9 :: s10 :: some (.w (.l os)) :: r)).out (s0 :: s1 :: s2 :: s3 :: s4 :: s5 :: s6 :: s7 :: s8 :: s9 :: s10 :: some (.w (.l os)) :: r) fun o => if os.length < lineMax ∧ nS o = true then .nx (s0 :: s1 :: s2 :: s3 :: s4 :: s5 :: s6 :: s7 :: s8 :: s9 :: s10 :: some (.w (.l (os ++ [o]))) :: r) else .bad := (rfl)
@[simp] theorem sAug_11 {s0 s1 s2 s3 s4 s5 s6 s7 s8 s9 s10 : Option Sl} {a : Int} {r : Env} {g : Int → Int → Int} {e : EV} : sAug 11 g e (s0 :: s1 :: s2 :: s3 :: s4 :: s5 :: s6 :: s7 :: s8 :: s9 :: s10 :: some (.w (.z (.int a))) :: r) = (e (s0 :: s1 :: s2 :: s3 :: s4 :: s5 :: s6 :: s7 :: s8 :: s9 :: s10 :: some (.w (.z (.int a))) :: r)).out (s0 :: s1 :: s2 :: s3 :: s4 :: s5 :: s6 :: s7 :: s8 :: s9 :: s10 :: some (.w (.z (.int a))) :: r) fun b => match b with | .z (.int b) => .nx (s0 :: s1 :: s2 :: s3 :: s4 :: s5 :: s6 :: s7 :: s8 :: s9 :: s10 :: some (.w (.z (.int (g a b)))) :: r) | _ => .bad := (rfl)
@[simp] theorem eVar_w12 {s0 s1 s2 s3 s4 s5 s6 s7 s8 s9 s10 s11 : Option Sl} {o : O} {r : Env} : eVar 12 (s0 :: s1 :: s2 :: s3 :: s4 :: s5 :: s6 :: s7 :: s8 :: s9 :: s10 :: s11 :: some (.w o) :: r) = .ok o := (rfl)
@[simp] theorem eVar_r12 {s0 s1 s2 s3 s4 s5 s6 s7 s8 s9 s10 s11 : Option Sl} {o : O} {r : Env} : eVar 12 (s0 :: s1 :: s2 :: s3 :: s4 :: s5 :: s6 :: s7 :: s8 :: s9 :: s10 :: s11 :: some (.r o) :: r) = .ok o := (rfl)
@[simp] theorem tN_12 {s0 s1 s2 s3 s4 s5 s6 s7 s8 s9 s10 s11 : Option Sl} {o : O} {x : Option Sl} {r : Env} : tN 12 o (s0 :: s1 :: s2 :: s3 :: s4 :: s5 :: s6 :: s7 :: s8 :: s9 :: s10 :: s11 :: x :: r) = some (s0 :: s1 :: s2 :: s3 :: s4 :: s5 :: s6 :: s7 :: s8 :: s9 :: s10 :: s11 :: some (.w o) :: r) := (rfl)
@[simp] theorem tNr_12 {s0 s1 s2 s3 s4 s5 s6 s7 s8 s9 s10 s11 : Option Sl} {o : O} {x : Option Sl} {r : Env} : tNr 12 o (s0 :: s1 :: s2 :: s3 :: s4 :: s5 :: s6 :: s7 :: s8 :: s9 :: s10 :: s11 :: x :: r) = some (s0 :: s1 :: s2 :: s3 :: s4 :: s5 :: s6 :: s7 :: s8 :: s9 :: s10 :: s11 :: some (lent o) :: r) := (rfl)
@[simp] theorem sRetMv_12 {s0 s1 s2 s3 s4 s5 s6 s7 s8 s9 s10 s11 : Option Sl} {o : O} {r : Env} : sRetMv 12 (s0 :: s1 :: s2 :: s3 :: s4 :: s5 :: s6 :: s7 :: s8 :: s9 :: s10 :: s11 :: some (.w o) :: r) = .rt o := (rfl)
@[simp] theorem frz_12 {s0 s1 s2 s3 s4 s5 s6 s7 s8 s9 s10 s11 : Option Sl} {o : O} {r : Env} : frz 12 (s0 :: s1 :: s2 :: s3 :: s4 :: s5 :: s6 :: s7 :: s8 :: s9 :: s10 :: s11 :: some (.w o) :: r) = if nS o then s0 :: s1 :: s2 :: s3 :: s4 :: s5 :: s6 :: s7 :: s8 :: s9 :: s10 :: s11 :: some (.w (.z (strip o))) :: r else s0 :: s1 :: s2 :: s3 :: s4 :: s5 :: s6 :: s7 :: s8 :: s9 :: s10 :: s11 :: some (.w o) :: r := by unfold frz; rfl
@[simp] theorem sApp_12 {s0 s1 s2 s3 s4 s5 s6 s7 s8 s9 s10 s11 : Option Sl} {os : List O} {r : Env} {e : EV} : sApp 12 e (s0 :: s1 :: s2 :: s3 :: s4 :: s5 :: s6 :: s7 :: s8 :: s9 :: s10 :: s11 :: some (.w (.l os)) :: r) = (e (s0 :: s1 :: s2 :: s3 :: s4 :: s5 :: s6 :: s7 :: s8 :: s9 :: s10 :: s11 :: some (.w (.l os)) :: r)).out (s0 :: s1 :: s2 :: s3 :: s4 :: s5 :: s6 :: s7 :: s8 :: s9 :: s10 :: s11 :: some (.w (.l os)) :: r) fun o => if os.length < lineMax ∧ nS o = true then .nx (s0 :: s1 :: s2 :: s3 :: s4 :: s5 :: s6 :: s7 :: s8 :: s9 :: s10 :: s11 :: some (.w (.l (os ++ [o]))) :: r) else .bad := (rfl)
@[simp] theorem sAug_12 {s0 s1 s2 s3 s4 s5 s6 s7 s8 s9 s10 s11 : Option Sl} {a : Int} {r : Env} {g : Int → Int → Int} {e : EV} : sAug 12 g e (s0 :: s1 :: s2 :: s3 :: s4 :: s5 :: s6 :: s7 :: s8 :: s9 :: s10 :: s11 :: some (.w (.z (.int a))) :: r) = (e (s0 :: s1 :: s2 :: s3 :: s4 :: s5 :: s6 :: s7 :: s8 :: s9 :: s10 :: s11 :: some (.w (.z (.int a))) :: r)).out (s0 :: s1 :: s2 :: s3 :: s4 :: s5 :: s6 :: s7 :: s8 :: s9 :: s10 :: s11 :: some (.w (.z (.int a))) :: r) fun b => match b with | .z (.int b) => .nx (s0 :: s1 :: s2 :: s3 :: s4 :: s5 :: s6 :: s7 :: s8 :: s9 :: s10 :: s11 :: some (.w (.z (.int (g a b)))) :: r) | _ => .bad := (rfl)
@[simp] theorem eVar_w13 {s0 s1 s2 s3 s4 s5 s6 s7 s8 s9 s10 s11 s12 : Option Sl} {o : O} {r : Env} : eVar 13 (s0 :: s1 :: s2 :: s3 :: s4 :: s5 :: s6 :: s7 :: s8 :: s9 :: s10 :: s11 :: s12 :: some (.w o) :: r) = .ok o := (rfl)
@[simp] theorem eVar_r13 {s0 s1 s2 s3 s4 s5 s6 s7 s8 s9 s10 s11 s12 : Option Sl} {o : O} {r : Env} : eVar 13 (s0 :: s1 :: s2 :: s3 :: s4 :: s5 :: s6 :: s7 :: s8 :: s9 :: s10 :: s11 :: s12 :: some (.r o) :: r) = .ok o := (rfl)
@[simp] theorem tN_13 {s0 s1 s2 s3 s4 s5 s6 s7 s8 s9 s10 s11 s12 : Option Sl} {o : O} {x : Option Sl} {r : Env} : tN 13 o (s0 :: s1 :: s2 :: s3 :: s4 :: s5 :: s6 :: s7 :: s8 :: s9 :: s10 :: s11 :: s12 :: x :: r) = some (s0 :: s1 :: s2 :: s3 :: s4 :: s5 :: s6 :: s7 :: s8 :: s9 :: s10 :: s11 :: s12 :: some (.w o) :: r) := (rfl)
@[simp] theorem tNr_13 {s0 s1 s2 s3 s4 s5 s6 s7 s8 s9 s10 s11 s12 : Option Sl} {o : O} {x : Option Sl} {r : Env} : tNr 13 o (s0 :: s1 :: s2 :: s3 :: s4 :: s5 :: s6 :: s7 :: s8 :: s9 :: s10 :: s11 :: s12 :: x :: r) = some (s0 :: s1 :: s2 :: s3 :: s4 :: s5 :: s6 :: s7 :: s8 :: s9 :: s10 :: s11 :: s12 :: some (lent o) :: r) := (rfl)
@[simp] theorem sRetMv_13 {s0 s1 s2 s3 s4 s5 s6 s7 s8 s9 s10 s11 s12 : Option Sl} {o : O} {r : Env} : sRetMv 13 (s0 :: s1 :: s2 :: s3 :: s4 :: s5 :: s6 :: s7 :: s8 :: s9 :: s10 :: s11 :: s12 :: some (.w o) :: r) = .rt o := (rfl)
@[simp] theorem frz_13 {s0 s1 s2 s3 s4 s5 s6 s7 s8 s9 s10 s11 s12 : Option Sl} {o : O} {r : Env} : frz 13 (s0 :: s1 :: s2 :: s3 :: s4 :: s5 :: s6 :: s7 :: s8 :: s9 :: s10 :: s11 :: s12 :: some (.w o) :: r) = if nS o then s0 :: s1 :: s2 :: s3 :: s4 :: s5 :: s6 :: s7 :: s8 :: s9 :: s10 :: s11 :: s12 :: some (.w (.z (strip o))) :: r else s0 :: s1 :: s2 :: s3 :: s4 :: s5 :: s6 :: s7 :: s8 :: s9 :: s10 :: s11 :: s12 :: some (.w o) :: r := by unfold frz; rfl
@[simp] theorem sApp_13 {s0 s1 s2 s3 s4 s5 s6 s7 s8 s9 s10 s11 s12 : Option Sl} {os : List O} {r : Env} {e : EV} : sApp 13 e (s0 :: s1 :: s2 :: s3 :: s4 :: s5 :: s6 :: s7 :: s8 :: s9 :: s10 :: s11 :: s12 :: some (.w (.l os)) :: r) = (e (s0 :: s1 :: s2 :: s3 :: s4 :: s5 :: s6 :: s7 :: s8 :: s9 :: s10 :: s11 :: s12 :: some (.w (.l os)) :: r)).out (s0 :: s1 :: s2 :: s3 :: s4 :: s5 :: s6 :: s7 :: s8 :: s9 :: s10 :: s11 :: s12 :: some (.w (.l os)) :: r) fun o => if os.length < lineMax ∧ nS o = true then .nx (s0 :: s1 :: s2 :: s3 :: s4 :: s5 :: s6 :: s7 :: s8 :: s9 :: s10 :: s11 :: s12 :: some (.w (.l (os ++ [o]))) :: r) else .bad := (rfl)
@[simp] theorem sAug_13 {s0 s1 s2 s3 s4 s5 s6 s7 s8 s9 s10 s11 s12 : Option Sl} {a : Int} {r : Env} {g : Int → Int → Int} {e : EV} : sAug 13 g e (s0 :: s1 :: s2 :: s3 :: s4 :: s5 :: s6 :: s7 :: s8 :: s9 :: s10 :: s11 :: s12 :: some (.w (.z (.int a))) :: r) = (e (s0 :: s1 :: s2 :: s3 :: s4 :: s5 :: s6 :: s7 :: s8 :: s9 :: s10 :: s11 :: s12 :: some (.w (.z (.int a))) :: r)).out (s0 :: s1 :: s2 :: s3 :: s4 :: s5 :: s6 :: s7 :: s8 :: s9 :: s10 :: s11 :: s12 :: some (.w (.z (.int a))) :: r) fun b => match b with | .z (.int b) => .nx (s0 :: s1 :: s2 :: s3 :: s4 :: s5 :: s6 :: s7 :: s8 :: s9 :: s10 :: s11 :: s12 :: some (.w (.z (.int (g a b)))) :: r) | _ => .bad := (rfl)
@[simp] theorem eVar_w14 {s0 s1 s2 s3 s4 s5 s6 s7 s8 s9 s10 s11 s12 s13 : Option Sl} {o : O} {r : Env} : eVar 14 (s0 :: s1 :: s2 :: s3 :: s4 :: s5 :: s6 :: s7 :: s8 :: s9 :: s10 :: s11 :: s12 :: s13 :: some (.w o) :: r) = .ok o := (rfl)
@[simp] theorem eVar_r14 {s0 s1 s2 s3 s4 s5 s6 s7 s8 s9 s10 s11 s12 s13 : Option Sl} {o : O} {r : Env} : eVar 14 (s0 :: s1 :: s2 :: s3 :: s4 :: s5 :: s6 :: s7 :: s8 :: s9 :: s10 :: s11 :: s12 :: s13 :: some (.r o) :: r) = .ok o := (rfl)
@[simp] theorem tN_14 {s0 s1 s2 s3 s4 s5 s6 s7 s8 s9 s10 s11 s12 s13 : Option Sl} {o : O} {x : Option Sl} {r : Env} : tN 14 o (s0 :: s1 :: s2 :: s3 :: s4 :: s5 :: s6 :: s7 :: s8 :: s9 :: s10 :: s11 :: s12 :: s13 :: x :: r) = some (s0 :: s1 :: s2 :: s3 :: s4 :: s5 :: s6 :: s7 :: s8 :: s9 :: s10 :: s11 :: s12 :: s13 :: some (.w o) :: r) := (rfl)
@[simp] theorem tNr_14 {s0 s1 s2 s3 s4 s5 s6 s7 s8 s9 s10 s11 s12 s13 : Option Sl} {o : O} {x : Option Sl} {r : Env} : tNr 14 o (s0 :: s1 :: s2 :: s3 :: s4 :: s5 :: s6 :: s7 :: s8 :: s9 :: s10 :: s11 :: s12 :: s13 :: x :: r) = some (s0 :: s1 :: s2 :: s3 :: s4 :: s5 :: s6 :: s7 :: s8 :: s9 :: s10 :: s11 :: s12 :: s13 :: some (lent o) :: r) := (rfl)
@[simp] theorem sRetMv_14 {s0 s1 s2 s3 s4 s5 s6 s7 s8 s9 s10 s11 s12 s13 : Option Sl} {o : O} {r : Env} : sRetMv 14 (s0 :: s1 :: s2 :: s3 :: s4 :: s5 :: s6 :: s7 :: s8 :: s9 :: s10 :: s11 :: s12 :: s13 :: some (.w o) :: r) = .rt o := (rfl)
@[simp] theorem frz_14 {s0 s1 s2 s3 s4 s5 s6 s7 s8 s9 s10 s11 s12 s13 : Option Sl} {o : O} {r : Env} : frz 14 (s0 :: s1 :: s2 :: s3 :: s4 :: s5 :: s6 :: s7 :: s8 :: s9 :: s10 :: s11 :: s12 :: s13 :: some (.w o) :: r) = if nS o then s0 :: s1 :: s2 :: s3 :: s4 :: s5 :: s6 :: s7 :: s8 :: s9 :: s10 :: s11 :: s12 :: s13 :: some (.w (.z (strip o))) :: r else s0 :: s1 :: s2 :: s3 :: s4 :: s5 :: s6 :: s7 :: s8 :: s9 :: s10 :: s11 :: s12 :: s13 :: some (.w o) :: r := by unfold frz; rfl
@[simp] theorem sApp_14 {s0 s1 s2 s3 s4 s5 s6 s7 s8 s9 s10 s11 s12 s13 : Option Sl} {os : List O} {r : Env} {e : EV} : sApp 14 e (s0 :: s1 :: s2 :: s3 :: s4 :: s5 :: s6 :: s7 :: s8 :: s9 :: s10 :: s11 :: s12 :: s13 :: some (.w (.l os)) :: r) = (e (s0 :: s1 :: s2 :: s3 :: s4 :: s5 :: s6 :: s7 :: s8 :: s9 :: s10 :: s11 :: s12 :: s13 :: some (.w (.l os)) :: r)).out (s0 :: s1 :: s2 :: s3 :: s4 :: s5 :: s6 :: s7 :: s8 :: s9 :: s10 :: s11 :: s12 :: s13 :: some (.w (.l os)) :: r) fun o => if os.length < lineMax ∧ nS o = true then .nx (s0 :: s1 :: s2 :: s3 :: s4 :: s5 :: s6 :: s7 :: s8 :: s9 :: s10 :: s11 :: s12 :: s13 :: some (.w (.l (os ++ [o]))) :: r) else .bad := (rfl)
@[simp] theorem sAug_14 {s0 s1 s2 s3 s4 s5 s6 s7 s8 s9 s10 s11 s12 s13 : Option Sl} {a : Int} {r : Env} {g : Int → Int → Int} {e : EV} : sAug 14 g e (s0 :: s1 :: s2 :: s3 :: s4 :: s5 :: s6 :: s7 :: s8 :: s9 :: s10 :: s11 :: s12 :: s13 :: some (.w (.z (.int a))) :: r) = (e (s0 :: s1 :: s2 :: s3 :: s4 :: s5 :: s6 :: s7 :: s8 :: s9 :: s10 :: s11 :: s12 :: s13 :: some (.w (.z (.int a))) :: r)).out (s0 :: s1 :: s2 :: s3 :: s4 :: s5 :: s6 :: s7 :: s8 :: s9 :: s10 :: s11 :: s12 :: s13 :: some (.w (.z (.int a))) :: r) fun b => match b with | .z (.int b) => .nx (s0 :: s1 :: s2 :: s3 :: s4 :: s5 :: s6 :: s7 :: s8 :: s9 :: s10 :: s11 :: s12 :: s13 :: some (.w (.z (.int (g a b)))) :: r) | _ => .bad := (rfl)
@[simp] theorem eVar_w15 {s0 s1 s2 s3 s4 s5 s6 s7 s8 s9 s10 s11 s12 s13 s14 : Option Sl} {o : O} {r : Env} : eVar 15 (s0 :: s1 :: s2 :: s3 :: s4 :: s5 :: s6 :: s7 :: s8 :: s9 :: s10 :: s11 :: s12 :: s13 :: s14 :: some (.w o) :: r) = .ok o := (rfl)
@[simp] theorem eVar_r15 {s0 s1 s2 s3 s4 s5 s6 s7 s8 s9 s10 s11 s12 s13 s14 : Option Sl} {o : O} {r : Env} : eVar 15 (s0 :: s1 :: s2 :: s3 :: s4 :: s5 :: s6 :: s7 :: s8 :: s9 :: s10 :: s11 :: s12 :: s13 :: s14 :: some (.r o) :: r) = .ok o := (rfl)
@[simp] theorem tN_15 {s0 s1 s2 s3 s4 s5 s6 s7 s8 s9 s10 s11 s12 s13 s14 : Option Sl} {o : O} {x : Option Sl} {r : Env} : tN 15 o (s0 :: s1 :: s2 :: s3 :: s4 :: s5 :: s6 :: s7 :: s8 :: s9 :: s10 :: s11 :: s12 :: s13 :: s14 :: x :: r) = some (s0 :: s1 :: s2 :: s3 :: s4 :: s5 :: s6 :: s7 :: s8 :: s9 :: s10 :: s11 :: s12 :: s13 :: s14 :: some (.w o) :: r) := (rfl)
@[simp] theorem tNr_15 {s0 s1 s2 s3 s4 s5 s6 s7 s8 s9 s10 s11 s12 s13 s14 : Option Sl} {o : O} {x : Option Sl} {r : Env} : tNr 15 o (s0 :: s1 :: s2 :: s3 :: s4 :: s5 :: s6 :: s7 :: s8 :: s9 :: s10 :: s11 :: s12 :: s13 :: s14 :: x :: r) = some (s0 :: s1 :: s2 :: s3 :: s4 :: s5 :: s6 :: s7 :: s8 :: s9 :: s10 :: s11 :: s12 :: s13 :: s14 :: some (lent o) :: r) := (rfl)
@[simp] theorem sRetMv_15 {s0 s1 s2 s3 s4 s5 s6 s7 s8 s9 s10 s11 s12 s13 s14 : Option Sl} {o : O} {r : Env} : sRetMv 15 (s0 :: s1 :: s2 :: s3 :: s4 :: s5 :: s6 :: s7 :: s8 :: s9 :: s10 :: s11 :: s12 :: s13 :: s14 :: some (.w o) :: r) = .rt o := (rfl)
@[simp] theorem frz_15 {s0 s1 s2 s3 s4 s5 s6 s7 s8 s9 s10 s11 s12 s13 s14 : Option Sl} {o : O} {r : Env} : frz 15 (s0 :: s1 :: s2 :: s3 :: s4 :: s5 :: s6 :: s7 :: s8 :: s9 :: s10 :: s11 :: s12 :: s13 :: s14 :: some (.w o) :: r) = if nS o then s0 :: s1 :: s2 :: s3 :: s4 :: s5 :: s6 :: s7 :: s8 :: s9 :: s10 :: s11 :: s12 :: s13 :: s14 :: some (.w (.z (strip o))) :: r else s0 :: s1 :: s2 :: s3 :: s4 :: s5 :: s6 :: s7 :: s8 :: s9 :: s10 :: s11 :: s12 :: s13 :: s14 :: some (.w o) :: r := by unfold frz; rfl
@[simp] theorem sApp_15 {s0 s1 s2 s3 s4 s5 s6 s7 s8 s9 s10 s11 s12 s13 s14 : Option Sl} {os : List O} {r : Env} {e : EV} : sApp 15 e (s0 :: s1 :: s2 :: s3 :: s4 :: s5 :: s6 :: s7 :: s8 :: s9 :: s10 :: s11 :: s12 :: s13 :: s14 :: some (.w (.l os)) :: r) = (e (s0 :: s1 :: s2 :: s3 :: s4 :: s5 :: s6 :: s7 :: s8 :: s9 :: s10 :: s11 :: s12 :: s13 :: s14 :: some (.w (.l os)) :: r)).out (s0 :: s1 :: s2 :: s3 :: s4 :: s5 :: s6 :: s7 :: s8 :: s9 :: s10 :: s11 :: s12 :: s13 :: s14 :: some (.w (.l os)) :: r) fun o => if os.length < lineMax ∧ nS o = true then .nx (s0 :: s1 :: s2 :: s3 :: s4 :: s5 :: s6 :: s7 :: s8 :: s9 :: s10 :: s11 :: s12 :: s13 :: s14 :: some (.w (.l (os ++ [o]))) :: r) else .bad := (rfl)
@[simp] theorem sAug_15 {s0 s1 s2 s3 s4 s5 s6 s7 s8 s9 s10 s11 s12 s13 s14 : Option Sl} {a : Int} {r : Env} {g : Int → Int → Int} {e : EV} : sAug 15 g e (s0 :: s1 :: s2 :: s3 :: s4 :: s5 :: s6 :: s7 :: s8 :: s9 :: s10 :: s11 :: s12 :: s13 :: s14 :: some (.w (.z (.int a))) :: r) = (e (s0 :: s1 :: s2 :: s3 :: s4 :: s5 :: s6 :: s7 :: s8 :: s9 :: s10 :: s11 :: s12 :: s13 :: s14 :: some (.w (.z (.int a))) :: r)).out (s0 :: s1 :: s2 :: s3 :: s4 :: s5 :: s6 :: s7 :: s8 :: s9 :: s10 :: s11 :: s12 :: s13 :: s14 :: some (.w (.z (.int a))) :: r) fun b => match b with | .z (.int b) => .nx (s0 :: s1 :: s2 :: s3 :: s4 :: s5 :: s6 :: s7 :: s8 :: s9 :: s10 :: s11 :: s12 :: s13 :: s14 :: some (.w (.z (.int (g a b)))) :: r) | _ => .bad := (rfl)
@[simp] theorem eVar_w16 {s0 s1 s2 s3 s4 s5 s6 s7 s8 s9 s10 s11 s12 s13 s14 s15 : Option Sl} {o : O} {r : Env} : eVar 16 (s0 :: s1 :: s2 :: s3 :: s4 :: s5 :: s6 :: s7 :: s8 :: s9 :: s10 :: s11 :: s12 :: s13 :: s14 :: s15 :: some (.w o) :: r) = .ok o := (rfl)
@[simp] theorem eVar_r16 {s0 s1 s2 s3 s4 s5 s6 s7 s8 s9 s10 s11 s12 s13 s14 s15 : Option Sl} {o : O} {r : Env} : eVar 16 (s0 :: s1 :: s2 :: s3 :: s4 :: s5 :: s6 :: s7 :: s8 :: s9 :: s10 :: s11 :: s12 :: s13 :: s14 :: s15 :: some (.r o) :: r) = .ok o := (rfl)
@[simp] theorem tN_16 {s0 s1 s2 s3 s4 s5 s6 s7 s8 s9 s10 s11 s12 s13 s14 s15 : Option Sl} {o : O} {x : Option Sl} {r : Env} : tN 16 o (s0 :: s1 :: s2 :: s3 :: s4 :: s5 :: s6 :: s7 :: s8 :: s9 :: s10 :: s11 :: s12 :: s13 :: s14 :: s15 :: x :: r) = some (s0 :: s1 :: s2 :: s3 :: s4 :: s5 :: s6 :: s7 :: s8 :: s9 :: s10 :: s11 :: s12 :: s13 :: s14 :: s15 :: some (.w o) :: r) := (rfl)
@[simp] theorem tNr_16 {s0 s1 s2 s3 s4 s5 s6 s7 s8 s9 s10 s11 s12 s13 s14 s15 : Option Sl} {o : O} {x : Option Sl} {r : Env} : tNr 16 o (s0 :: s1 :: s2 :: s3 :: s4 :: s5 :: s6 :: s7 :: s8 :: s9 :: s10 :: s11 :: s12 :: s13 :: s14 :: s15 :: x :: r) = some (s0 :: s1 :: s2 :: s3 :: s4 :: s5 :: s6 :: s7 :: s8 :: s9 :: s10 :: s11 :: s12 :: s13 :: s14 :: s15 :: some (lent o) :: r) := (rfl)
@[simp] theorem sRetMv_16 {s0 s1 s2 s3 s4 s5 s6 s7 s8 s9 s10 s11 s12 s13 s14 s15 : Option Sl} {o : O} {r : Env} : sRetMv 16 (s0 :: s1 :: s2 :: s3 :: s4 :: s5 :: s6 :: s7 :: s8 :: s9 :: s10 :: s11 :: s12 :: s13 :: s14 :: s15 :: some (.w o) :: r) = .rt o := (rfl)
@[simp] theorem frz_16 {s0 s1 s2 s3 s4 s5 s6 s7 s8 s9 s10 s11 s12 s13 s14 s15 : Option Sl} {o : O} {r : Env} : frz 16 (s0 :: s1 :: s2 :: s3 :: s4 :: s5 :: s6 :: s7 :: s8 :: s9 :: s10 :: s11 :: s12 :: s13 :: s14 :: s15 :: some (.w o) :: r) = if nS o then s0 :: s1 :: s2 :: s3 :: s4 :: s5 :: s6 :: s7 :: s8 :: s9 :: s10 :: s11 :: s12 :: s13 :: s14 :: s15 :: some (.w (.z (strip o))) :: r else s0 :: s1 :: s2 :: s3 :: s4 :: s5 :: s6 :: s7 :: s8 :: s9 :: s10 :: s11 :: s12 :: s13 :: s14 :: s15 :: some (.w o) :: r := by unfold frz; rfl
@[simp] theorem sApp_16 {s0 s1 s2 s3 s4 s5 s6 s7 s8 s9 s10 s11 s12 s13 s14 s15 : Option Sl} {os : List O} {r : Env} {e : EV} : sApp 16 e (s0 :: s1 :: s2 :: s3 :: s4 :: s5 :: s6 :: s7 :: s8 :: s9 :: s10 :: s11 :: s12 :: s13 :: s14 :: s15 :: some (.w (.l os)) :: r) = (e (s0 :: s1 :: s2 :: s3 :: s4 :: s5 :: s6 :: s7 :: s8 :: s9 :: s10 :: s11 :: s12 :: s13 :: s14 :: s15 :: some (.w (.l os)) :: r)).out (s0 :: s1 :: s2 :: s3 :: s4 :: s5 :: s6 :: s7 :: s8 :: s9 :: s10 :: s11 :: s12 :: s13 :: s14 :: s15 :: some (.w (.l os)) :: r) fun o => if os.length < lineMax ∧ nS o = true then .nx (s0 :: s1 :: s2 :: s3 :: s4 :: s5 :: s6 :: s7 :: s8 :: s9 :: s10 :: s11 :: s12 :: s13 :: s14 :: s15 :: some (.w (.l (os ++ [o]))) :: r) else .bad := (rfl)
@[simp] theorem sAug_16 {s0 s1 s2 s3 s4 s5 s6 s7 s8 s9 s10 s11 s12 s13 s14 s15 : Option Sl} {a : Int} {r : Env} {g : Int → Int → Int} {e : EV} : sAug 16 g e (s0 :: s1 :: s2 :: s3 :: s4 :: s5 :: s6 :: s7 :: s8 :: s9 :: s10 :: s11 :: s12 :: s13 :: s14 :: s15 :: some (.w (.z (.int a))) :: r) = (e (s0 :: s1 :: s2 :: s3 :: s4 :: s5 :: s6 :: s7 :: s8 :: s9 :: s10 :: s11 :: s12 :: s13 :: s14 :: s15 :: some (.w (.z (.int a))) :: r)).out (s0 :: s1 :: s2 :: s3 :: s4 :: s5 :: s6 :: s7 :: s8 :: s9 :: s10 :: s11 :: s12 :: s13 :: s14 :: s15 :: some (.w (.z (.int a))) :: r) fun b => match b with | .z (.int b) => .nx (s0 :: s1 :: s2 :: s3 :: s4 :: s5 :: s6 :: s7 :: s8 :: s9 :: s10 :: s11 :: s12 :: s13 :: s14 :: s15 :: some (.w (.z (.int (g a b)))) :: r) | _ => .bad := (rfl)
@[simp] theorem eVar_w17 {s0 s1 s2 s3 s4 s5 s6 s7 s8 s9 s10 s11 s12 s13 s14 s15 s16 : Option Sl} {o : O} {r : Env} : eVar 17 (s0 :: s1 :: s2 :: s3 :: s4 :: s5 :: s6 :: s7 :: s8 :: s9 :: s10 :: s11 :: s12 :: s13 :: s14 :: s15 :: s16 :: some (.w o) :: r) = .ok o := (rfl)
@[simp] theorem eVar_r17 {s0 s1 s2 s3 s4 s5 s6 s7 s8 s9 s10 s11 s12 s13 s14 s15 s16 : Option Sl} {o : O} {r : Env} : eVar 17 (s0 :: s1 :: s2 :: s3 :: s4 :: s5 :: s6 :: s7 :: s8 :: s9 :: s10 :: s11 :: s12 :: s13 :: s14 :: s15 :: s16 :: some (.r o) :: r) = .ok o := (rfl)
@[simp] theorem tN_17 {s0 s1 s2 s3 s4 s5 s6 s7 s8 s9 s10 s11 s12 s13 s14 s15 s16 : Option Sl} {o : O} {x : Option Sl} {r : Env} : tN 17 o (s0 :: s1 :: s2 :: s3 :: s4 :: s5 :: s6 :: s7 :: s8 :: s9 :: s10 :: s11 :: s12 :: s13 :: s14 :: s15 :: s16 :: x :: r) = some (s0 :: s1 :: s2 :: s3 :: s4 :: s5 :: s6 :: s7 :: s8 :: s9 :: s10 :: s11 :: s12 :: s13 :: s14 :: s15 :: s16 :: some (.w o) :: r) := (rfl)
@[simp] theorem tNr_17 {s0 s1 s2 s3 s4 s5 s6 s7 s8 s9 s10 s11 s12 s13 s14 s15 s16 : Option Sl} {o : O} {x : Option Sl} {r : Env} : tNr 17 o (s0 :: s1 :: s2 :: s3 :: s4 :: s5 :: s6 :: s7 :: s8 :: s9 :: s10 :: s11 :: s12 :: s13 :: s14 :: s15 :: s16 :: x :: r) = some (s0 :: s1 :: s2 :: s3 :: s4 :: s5 :: s6 :: s7 :: s8 :: s9 :: s10 :: s11 :: s12 :: s13 :: s14 :: s15 :: s16 :: some (lent o) :: r) := (rfl)
@[simp] theorem sRetMv_17 {s0 s1 s2 s3 s4 s5 s6 s7 s8 s9 s10 s11 s12 s13 s14 s15 s16 : Option Sl} {o : O} {r : Env} : sRetMv 17 (s0 :: s1 :: s2 :: s3 :: s4 :: s5 :: s6 :: s7 :: s8 :: s9 :: s10 :: s11 :: s12 :: s13 :: s14 :: s15 :: s16 :: some (.w o) :: r) = .rt o := (rfl)
@[simp] theorem frz_17 {s0 s1 s2 s3 s4 s5 s6 s7 s8 s9 s10 s11 s12 s13 s14 s15 s16 : Option Sl} {o : O} {r : Env} : frz 17 (s0 :: s1 :: s2 :: s3 :: s4 :: s5 :: s6 :: s7 :: s8 :: s9 :: s10 :: s11 :: s12 :: s13 :: s14 :: s15 :: s16 :: some (.w o) :: r) = if nS o then s0 :: s1 :: s2 :: s3 :: s4 :: s5 :: s6 :: s7 :: s8 :: s9 :: s10 :: s11 :: s12 :: s13 :: s14 :: s15 :: s16 :: some (.w (.z (strip o))) :: r else s0 :: s1 :: s2 :: s3 :: s4 :: s5 :: s6 :: s7 :: s8 :: s9 :: s10 :: s11 :: s12 :: s13 :: s14 :: s15 :: s16 :: some (.w o) :: r := by unfold frz; rfl
@[simp] theorem sApp_17 {s0 s1 s2 s3 s4 s5 s6 s7 s8 s9 s10 s11 s12 s13 s14 s15 s16 : Option Sl} {os : List O} {r : Env} {e : EV} : sApp 17 e (s0 :: s1 :: s2 :: s3 :: s4 :: s5 :: s6 :: s7 :: s8 :: s9 :: s10 :: s11 :: s12 :: s13 :: s14 :: s15 :: s16 :: some (.w (.l os)) :: r) = (e (s0 :: s1 :: s2 :: s3 :: s4 :: s5 :: s6 :: s7 :: s8 :: s9 :: s10 :: s11 :: s12 :: s13 :: s14 :: s15 :: s16 :: some (.w (.l os)) :: r)).out (s0 :: s1 :: s2 :: s3 :: s4 :: s5 :: s6 :: s7 :: s8 :: s9 :: s10 :: s11 :: s12 :: s13 :: s14 :: s15 :: s16 :: some (.w (.l os)) :: r) fun o => if os.length < lineMax ∧ nS o = true then .nx (s0 :: s1 :: s2 :: s3 :: s4 :: s5 :: s6 :: s7 :: s8 :: s9 :: s10 :: s11 :: s12 :: s13 :: s14 :: s15 :: s16 :: some (.w (.l (os ++ [o]))) :: r) else .bad := (rfl)
@[simp] theorem sAug_17 {s0 s1 s2 s3 s4 s5 s6 s7 s8 s9 s10 s11 s12 s13 s14 s15 s16 : Option Sl} {a : Int} {r : Env} {g : Int → Int → Int} {e : EV} : sAug 17 g e (s0 :: s1 :: s2 :: s3 :: s4 :: s5 :: s6 :: s7 :: s8 :: s9 :: s10 :: s11 :: s12 :: s13 :: s14 :: s15 :: s16 :: some (.w (.z (.int a))) :: r) = (e (s0 :: s1 :: s2 :: s3 :: s4 :: s5 :: s6 :: s7 :: s8 :: s9 :: s10 :: s11 :: s12 :: s13 :: s14 :: s15 :: s16 :: some (.w (.z (.int a))) :: r)).out (s0 :: s1 :: s2 :: s3 :: s4 :: s5 :: s6 :: s7 :: s8 :: s9 :: s10 :: s11 :: s12 :: s13 :: s14 :: s15 :: s16 :: some (.w (.z (.int a))) :: r) fun b => match b with | .z (.int b) => .nx (s0 :: s1 :: s2 :: s3 :: s4 :: s5 :: s6 :: s7 :: s8 :: s9 :: s10 :: s11 :: s12 :: s13 :: s14 :: s15 :: s16 :: some (.w (.z (.int (g a b)))) :: r) | _ => .bad := (rfl)
@[simp] theorem eVar_w18 {s0 s1 s2 s3 s4 s5 s6 s7 s8 s9 s10 s11 s12 s13 s14 s15 s16 s17 : Option Sl} {o : O} {r : Env} : eVar 18 (s0 :: s1 :: s2 :: s3 :: s4 :: s5 :: s6 :: s7 :: s8 :: s9 :: s10 :: s11 :: s12 :: s13 :: s14 :: s15 :: s16 :: s17 :: some (.w o) :: r) = .ok o := (rfl)
@[simp] theorem eVar_r18 {s0 s1 s2 s3 s4 s5 s6 s7 s8 s9 s10 s11 s12 s13 s14 s15 s16 s17 : Option Sl} {o : O} {r : Env} : eVar 18 (s0 :: s1 :: s2 :: s3 :: s4 :: s5 :: s6 :: s7 :: s8 :: s9 :: s10 :: s11 :: s12 :: s13 :: s14 :: s15 :: s16 :: s17 :: some (.r o) :: r) = .ok o := (rfl)
@[simp] theorem tN_18 {s0 s1 s2 s3 s4 s5 s6 s7 s8 s9 s10 s11 s12 s13 s14 s15 s16 s17 : Option Sl} {o : O} {x : Option Sl} {r : Env} : tN 18 o (s0 :: s1 :: s2 :: s3 :: s4 :: s5 :: s6 :: s7 :: s8 :: s9 :: s10 :: s11 :: s12 :: s13 :: s14 :: s15 :: s16 :: s17 :: x :: r) = some (s0 :: s1 :: s2 :: s3 :: s4 :: s5 :: s6 :: s7 :: s8 :: s9 :: s10 :: s11 :: s12 :: s13 :: s14 :: s15 :: s16 :: s17 :: some (.w o) :: r) := (rfl)
@[simp] theorem tNr_18 {s0 s1 s2 s3 s4 s5 s6 s7 s8 s9 s10 s11 s12 s13 s14 s15 s16 s17 : Option Sl} {o : O} {x : Option Sl} {r : Env} : tNr 18 o (s0 :: s1 :: s2 :: s3 :: s4 :: s5 :: s6 :: s7 :: s8 :: s9 :: s10 :: s11 :: s12 :: s13 :: s14 :: s15 :: s16 :: s17 :: x :: r) = some (s0 :: s1 :: s2 :: s3 :: s4 :: s5 :: s6 :: s7 :: s8 :: s9 :: s10 :: s11 :: s12 :: s13 :: s14 :: s15 :: s16 :: s17 :: some (lent o) :: r) := (rfl)
@[simp] theorem sRetMv_18 {s0 s1 s2 s3 s4 s5 s6 s7 s8 s9 s10 s11 s12 s13 s14 s15 s16 s17 : Option Sl} {o : O} {r : Env} : sRetMv 18 (s0 :: s1 :: s2 :: s3 :: s4 :: s5 :: s6 :: s7 :: s8 :: s9 :: s10 :: s11 :: s12 :: s13 :: s14 :: s15 :: s16 :: s17 :: some (.w o) :: r) = .rt o := (rfl)
@[simp] theorem frz_18 {s0 s1 s2 s3 s4 s5 s6 s7 s8 s9 s10 s11 s12 s13 s14 s15 s16 s17 : Option Sl} {o : O} {r : Env} : frz 18 (s0 :: s1 :: s2 :: s3 :: s4 :: s5 :: s6 :: s7 :: s8 :: s9 :: s10 :: s11 :: s12 :: s13 :: s14 :: s15 :: s16 :: s17 :: some (.w o) :: r) = if nS o then s0 :: s1 :: s2 :: s3 :: s4 :: s5 :: s6 :: s7 :: s8 :: s9 :: s10 :: s11 :: s12 :: s13 :: s14 :: s15 :: s16 :: s17 :: some (.w (.z (strip o))) :: r else s0 :: s1 :: s2 :: s3 :: s4 :: s5 :: s6 :: s7 :: s8 :: s9 :: s10 :: s11 :: s12 :: s13 :: s14 :: s15 :: s16 :: s17 :: some (.w o) :: r := by unfold frz; rfl
@[simp] theorem sApp_18 {s0 s1 s2 s3 s4 s5 s6 s7 s8 s9 s10 s11 s12 s13 s14 s15 s16 s17 : Option Sl} {os : List O} {r : Env} {e : EV} : sApp 18 e (s0 :: s1 :: s2 :: s3 :: s4 :: s5 :: s6 :: s7 :: s8 :: s9 :: s10 :: s11 :: s12 :: s13 :: s14 :: s15 :: s16 :: s17 :: some (.w (.l os)) :: r) = (e (s0 :: s1 :: s2 :: s3 :: s4 :: s5 :: s6 :: s7 :: s8 :: s9 :: s10 :: s11 :: s12 :: s13 :: s14 :: s15 :: s16 :: s17 :: some (.w (.l os)) :: r)).out (s0 :: s1 :: s2 :: s3 :: s4 :: s5 :: s6 :: s7 :: s8 :: s9 :: s10 :: s11 :: s12 :: s13 :: s14 :: s15 :: s16 :: s17 :: some (.w (.l os)) :: r) fun o => if os.length < lineMax ∧ nS o = true then .nx (s0 :: s1 :: s2 :: s3 :: s4 :: s5 :: s6 :: s7 :: s8 :: s9 :: s10 :: s11 :: s12 :: s13 :: s14 :: s15 :: s16 :: s17 :: some (.w (.l (os ++ [o]))) :: r) else .bad := (rfl)
@[simp] theorem sAug_18 {s0 s1 s2 s3 s4 s5 s6 s7 s8 s9 s10 s11 s12 s13 s14 s15 s16 s17 : Option Sl} {a : Int} {r : Env} {g : Int → Int → Int} {e : EV} : sAug 18 g e (s0 :: s1 :: s2 :: s3 :: s4 :: s5 :: s6 :: s7 :: s8 :: s9 :: s10 :: s11 :: s12 :: s13 :: s14 :: s15 :: s16 :: s17 :: some (.w (.z (.int a))) :: r) = (e (s0 :: s1 :: s2 :: s3 :: s4 :: s5 :: s6 :: s7 :: s8 :: s9 :: s10 :: s11 :: s12 :: s13 :: s14 :: s15 :: s16 :: s17 :: some (.w (.z (.int a))) :: r)).out (s0 :: s1 :: s2 :: s3 :: s4 :: s5 :: s6 :: s7 :: s8 :: s9 :: s10 :: s11 :: s12 :: s13 :: s14 :: s15 :: s16 :: s17 :: some (.w (.z (.int a))) :: r) fun b => match b with | .z (.int b) => .nx (s0 :: s1 :: s2 :: s3 :: s4 :: s5 :: s6 :: s7 :: s8 :: s9 :: s10 :: s11 :: s12 :: s13 :: s14 :: s15 :: s16 :: s17 :: some (.w (.z (.int (g a b)))) :: r) | _ => .bad := (rfl)
@[simp] theorem eVar_w19 {s0 s1 s2 s3 s4 s5 s6 s7 s8 s9 s10 s11 s12 s13 s14 s15 s16 s17 s18 : Option Sl} {o : O} {r : Env} : eVar 19 (s0 :: s1 :: s2 :: s3 :: s4 :: s5 :: s6 :: s7 :: s8 :: s9 :: s10 :: s11 :: s12 :: s13 :: s14 :: s15 :: s16 :: s17 :: s18 :: some (.w o) :: r) = .ok o := (rfl)
@[simp] theorem eVar_r19 {s0 s1 s2 s3 s4 s5 s6 s7 s8 s9 s10 s11 s12 s13 s14 s15 s16 s17 s18 : Option Sl} {o : O} {r : Env} : eVar 19 (s0 :: s1 :: s2 :: s3 :: s4 :: s5 :: s6 :: s7 :: s8 :: s9 :: s10 :: s11 :: s12 :: s13 :: s14 :: s15 :: s16 :: s17 :: s18 :: some (.r o) :: r) = .ok o := (rfl)
@[simp] theorem tN_19 {s0 s1 s2 s3 s4 s5 s6 s7 s8 s9 s10 s11 s12 s13 s14 s15 s16 s17 s18 : Option Sl} {o : O} {x : Option Sl} {r : Env} : tN 19 o (s0 :: s1 :: s2 :: s3 :: s4 :: s5 :: s6 :: s7 :: s8 :: s9 :: s10 :: s11 :: s12 :: s13 :: s14 :: s15 :: s16 :: s17 :: s18 :: x :: r) = some (s0 :: s1 :: s2 :: s3 :: s4 :: s5 :: s6 :: s7 :: s8 :: s9 :: s10 :: s11 :: s12 :: s13 :: s14 :: s15 :: s16 :: s17 :: s18 :: some (.w o) :: r) := (rfl)
@[simp] theorem tNr_19 {s0 s1 s2 s3 s4 s5 s6 s7 s8 s9 s10 s11 s12 s13 s14 s15 s16 s17 s18 : Option Sl} {o : O} {x : Option Sl} {r : Env} : tNr 19 o (s0 :: s1 :: s2 :: s3 :: s4 :: s5 :: s6 :: s7 :: s8 :: s9 :: s10 :: s11 :: s12 :: s13 :: s14 :: s15 :: s16 :: s17 :: s18 :: x :: r) = some (s0 :: s1 :: s2 :: s3 :: s4 :: s5 :: s6 :: s7 :: s8 :: s9 :: s10 :: s11 :: s12 :: s13 :: s14 :: s15 :: s16 :: s17 :: s18 :: some (lent o) :: r) := (rfl)
@[simp] theorem sRetMv_19 {s0 s1 s2 s3 s4 s5 s6 s7 s8 s9 s10 s11 s12 s13 s14 s15 s16 s17 s18 : Option Sl} {o : O} {r : Env} : sRetMv 19 (s0 :: s1 :: s2 :: s3 :: s4 :: s5 :: s6 :: s7 :: s8 :: s9 :: s10 :: s11 :: s12 :: s13 :: s14 :: s15 :: s16 :: s17 :: s18 :: some (.w o) :: r) = .rt o := (rfl)
@[simp] theorem frz_19 {s0 s1 s2 s3 s4 s5 s6 s7 s8 s9 s10 s11 s12 s13 s14 s15 s16 s17 s18 : Option Sl} {o : O} {r : Env} : frz 19 (s0 :: s1 :: s2 :: s3 :: s4 :: s5 :: s6 :: s7 :: s8 :: s9 :: s10 :: s11 :: s12 :: s13 :: s14 :: s15 :: s16 :: s17 :: s18 :: some (.w o) :: r) = if nS o then s0 :: s1 :: s2 :: s3 :: s4 :: s5 :: s6 :: s7 :: s8 :: s9 :: s10 :: s11 :: s12 :: s13 :: s14 :: s15 :: s16 :: s17 :: s18 :: some (.w (.z (strip o))) :: r else s0 :: s1 :: s2 :: s3 :: s4 :: s5 :: s6 :: s7 :: s8 :: s9 :: s10 :: s11 :: s12 :: s13 :: s14 :: s15 :: s16 :: s17 :: s18 :: some (.w o) :: r := by unfold frz; rfl
@[simp] theorem sApp_19 {s0 s1 s2 s3 s4 s5 s6 s7 s8 s9 s10 s11 s12 s13 s14 s15 s16 s17 s18 : Option Sl} {os : List O} {r : Env} {e : EV} : sApp 19 e (s0 :: s1 :: s2 :: s3 :: s4 :: s5 :: s6 :: s7 :: s8 :: s9 :: s10 :: s11 :: s12 :: s13 :: s14 :: s15 :: s16 :: s17 :: s18 :: some (.w (.l os)) :: r) = (e (s0 :: s1 :: s2 :: s3 :: s4 :: s5 :: s6 :: s7 :: s8 :: s9 :: s10 :: s11 :: s12 :: s13 :: s14 :: s15 :: s16 :: s17 :: s18 :: some (.w (.l os)) :: r)).out (s0 :: s1 :: s2 :: s3 :: s4 :: s5 :: s6 :: s7 :: s8 :: s9 :: s10 :: s11 :: s12 :: s13 :: s14 :: s15 :: s16 :: s17 :: s18 :: some (.w (.l os)) :: r) fun o => if os.length < lineMax ∧ nS o = true then .nx (s0 :: s1 :: s2 :: s3 :: s4 :: s5 :: s6 :: s7 :: s8 :: s9 :: s10 :: s11 :: s12 :: s13 :: s14 :: s15 :: s16 :: s17 :: s18 :: some (.w (.l (os ++ [o]))) :: r) else .bad := (rfl)
@[simp] theorem sAug_19 {s0 s1 s2 s3 s4 s5 s6 s7 s8 s9 s10 s11 s12 s13 s14 s15 s16 s17 s18 : Option Sl} {a : Int} {r : Env} {g : Int → Int → Int} {e : EV} : sAug 19 g e (s0 :: s1 :: s2 :: s3 :: s4 :: s5 :: s6 :: s7 :: s8 :: s9 :: s10 :: s11 :: s12 :: s13 :: s14 :: s15 :: s16 :: s17 :: s18 :: some (.w (.z (.int a))) :: r) = (e (s0 :: s1 :: s2 :: s3 :: s4 :: s5 :: s6 :: s7 :: s8 :: s9 :: s10 :: s11 :: s12 :: s13 :: s14 :: s15 :: s16 :: s17 :: s18 :: some (.w (.z (.int a))) :: r)).out (s0 :: s1 :: s2 :: s3 :: s4 :: s5 :: s6 :: s7 :: s8 :: s9 :: s10 :: s11 :: s12 :: s13 :: s14 :: s15 :: s16 :: s17 :: s18 :: some (.w (.z (.int a))) :: r) fun b => match b with | .z (.int b) => .nx (s0 :: s1 :: s2 :: s3 :: s4 :: s5 :: s6 :: s7 :: s8 :: s9 :: s10 :: s11 :: s12 :: s13 :: s14 :: s15 :: s16 :: s17 :: s18 :: some (.w (.z (.int (g a b)))) :: r) | _ => .bad := (rfl)
@[simp] theorem eVar_w20 {s0 s1 s2 s3 s4 s5 s6 s7 s8 s9 s10 s11 s12 s13 s14 s15 s16 s17 s18 s19 : Option Sl} {o : O} {r : Env} : eVar 20 (s0 :: s1 :: s2 :: s3 :: s4 :: s5 :: s6 :: s7 :: s8 :: s9 :: s10 :: s11 :: s12 :: s13 :: s14 :: s15 :: s16 :: s17 :: s18 :: s19 :: some (.w o) :: r) = .ok o := (rfl)
@[simp] theorem eVar_r20 {s0 s1 s2 s3 s4 s5 s6 s7 s8 s9 s10 s11 s12 s13 s14 s15 s16 s17 s18 s19 : Option Sl} {o : O} {r : Env} : eVar 20 (s0 :: s1 :: s2 :: s3 :: s4 :: s5 :: s6 :: s7 :: s8 :: s9 :: s10 :: s11 :: s12 :: s13 :: s14 :: s15 :: s16 :: s17 :: s18 :: s19 :: some (.r o) :: r) = .ok o := (rfl)
@[simp] theorem tN_20 {s0 s1 s2 s3 s4 s5 s6 s7 s8 s9 s10 s11 s12 s13 s14 s15 s16 s17 s18 s19 : Option Sl} {o : O} {x : Option Sl} {r : Env} : tN 20 o (s0 :: s1 :: s2 :: s3 :: s4 :: s5 :: s6 :: s7 :: s8 :: s9 :: s10 :: s11 :: s12 :: s13 :: s14 :: s15 :: s16 :: s17 :: s18 :: s19 :: x :: r) = some (s0 :: s1 :: s2 :: s3 :: s4 :: s5 :: s6 :: s7 :: s8 :: s9 :: s10 :: s11 :: s12 :: s13 :: s14 :: s15 :: s16 :: s17 :: s18 :: s19 :: some (.w o) :: r) := (rfl)
@[simp] theorem tNr_20 {s0 s1 s2 s3 s4 s5 s6 s7 s8 s9 s10 s11 s12 s13 s14 s15 s16 s17 s18 s19 : Option Sl} {o : O} {x : Option Sl} {r : Env} : tNr 20 o (s0 :: s1 :: s2 :: s3 :: s4 :: s5 :: s6 :: s7 :: s8 :: s9 :: s10 :: s11 :: s12 :: s13 :: s14 :: s15 :: s16 :: s17 :: s18 :: s19 :: x :: r) = some (s0 :: s1 :: s2 :: s3 :: s4 :: s5 :: s6 :: s7 :: s8 :: s9 :: s10 :: s11 :: s12 :: s13 :: s14 :: s15 :: s16 :: s17 :: s18 :: s19 :: some (lent o) :: r) := (rfl)
@[simp] theorem sRetMv_20 {s0 s1 s2 s3 s4 s5 s6 s7 s8 s9 s10 s11 s12 s13 s14 s15 s16 s17 s18 s19 : Option Sl} {o : O} {r : Env} : sRetMv 20 (s0 :: s1 :: s2 :: s3 :: s4 :: s5 :: s6 :: s7 :: s8 :: s9 :: s10 :: s11 :: s12 :: s13 :: s14 :: s15 :: s16 :: s17 :: s18 :: s19 :: some (.w o) :: r) = .rt o := (rfl)
@[simp] theorem frz_20 {s0 s1 s2 s3 s4 s5 s6 s7 s8 s9 s10 s11 s12 s13 s14 s15 s16 s17 s18 s19 : Option Sl} {o : O} {r : Env} : frz 20 (s0 :: s1 :: s2 :: s3 :: s4 :: s5 :: s6 :: s7 :: s8 :: s9 :: s10 :: s11 :: s12 :: s13 :: s14 :: s15 :: s16 :: s17 :: s18 :: s19 :: some (.w o) :: r) = if nS o then s0 :: s1 :: s2 :: s3 :: s4 :: s5 :: s6 :: s7 :: s8 :: s9 :: s10 :: s11 :: s12 :: s13 :: s14 :: s15 :: s16 :: s17 :: s18 :: s19 :: some (.w (.z (strip o))) :: r else s0 :: s1 :: s2 :: s3 :: s4 :: s5 :: s6 :: s7 :: s8 :: s9 :: s10 :: s11 :: s12 :: s13 :: s14 :: s15 :: s16 :: s17 :: s18 :: s19 :: some (.w o) :: r := by unfold frz; rfl
@[simp] theorem sApp_20 {s0 s1 s2 s3 s4 s5 s6 s7 s8 s9 s10 s11 s12 s13 s14 s15 s16 s17 s18 s19 : Option Sl} {os : List O} {r : Env} {e : EV} : sApp 20 e (s0 :: s1 :: s2 :: s3 :: s4 :: s5 :: s6 :: s7 :: s8 :: s9 :: s10 :: s11 :: s12 :: s13 :: s14 :: s15 :: s16 :: s17 :: s18 :: s19 :: some (.w (.l os)) :: r) = (e (s0 :: s1 :: s2 :: s3 :: s4 :: s5 :: s6 :: s7 :: s8 :: s9 :: s10 :: s11 :: s12 :: s13 :: s14 :: s15 :: s16 :: s17 :: s18 :: s19 :: some (.w (.l os)) :: r)).out (s0 :: s1 :: s2 :: s3 :: s4 :: s5 :: s6 :: s7 :: s8 :: s9 :: s10 :: s11 :: s12 :: s13 :: s14 :: s15 :: s16 :: s17 :: s18 :: s19 :: some (.w (.l os)) :: r) fun o => if os.length < lineMax ∧ nS o = true then .nx (s0 :: s1 :: s2 :: s3 :: s4 :: s5 :: s6 :: s7 :: s8 :: s9 :: s10 :: s11 :: s12 :: s13 :: s14 :: s15 :: s16 :: s17 :: s18 :: s19 :: some (.w (.l (os ++ [o]))) :: r) else .bad := (rfl)
@[simp] theorem sAug_20 {s0 s1 s2 s3 s4 s5 s6 s7 s8 s9 s10 s11 s12 s13 s14 s15 s16 s17 s18 s19 : Option Sl} {a : Int} {r : Env} {g : Int → Int → Int} {e : EV} : sAug 20 g e (s0 :: s1 :: s2 :: s3 :: s4 :: s5 :: s6 :: s7 :: s8 :: s9 :: s10 :: s11 :: s12 :: s13 :: s14 :: s15 :: s16 :: s17 :: s18 :: s19 :: some (.w (.z (.int a))) :: r) = (e (s0 :: s1 :: s2 :: s3 :: s4 :: s5 :: s6 :: s7 :: s8 :: s9 :: s10 :: s11 :: s12 :: s13 :: s14 :: s15 :: s16 :: s17 :: s18 :: s19 :: some (.w (.z (.int a))) :: r)).out (s0 :: s1 :: s2 :: s3 :: s4 :: s5 :: s6 :: s7 :: s8 :: s9 :: s10 :: s11 :: s12 :: s13 :: s14 :: s15 :: s16 :: s17 :: s18 :: s19 :: some (.w (.z (.int a))) :: r) fun b => match b with | .z (.int b) => .nx (s0 :: s1 :: s2 :: s3 :: s4 :: s5 :: s6 :: s7 :: s8 :: s9 :: s10 :: s11 :: s12 :: s13 :: s14 :: s15 :: s16 :: s17 :: s18 :: s19 :: some (.w (.z (.int (g a b)))) :: r) | _ => .bad := (rfl)
@[simp] theorem eVar_w21 {s0 s1 s2 s3 s4 s5 s6 s7 s8 s9 s10 s11 s12 s13 s14 s15 s16 s17 s18 s19 s20 : Option Sl} {o : O} {r : Env} : eVar 21 (s0 :: s1 :: s2 :: s3 :: s4 :: s5 :: s6 :: s7 :: s8 :: s9 :: s10 :: s11 :: s12 :: s13 :: s14 :: s15 :: s16 :: s17 :: s18 :: s19 :: s20 :: some (.w o) :: r) = .ok o := (rfl)
@[simp] theorem eVar_r21 {s0 s1 s2 s3 s4 s5 s6 s7 s8 s9 s10 s11 s12 s13 s14 s15 s16 s17 s18 s19 s20 : Option Sl} {o : O} {r : Env} : eVar 21 (s0 :: s1 :: s2 :: s3 :: s4 :: s5 :: s6 :: s7 :: s8 :: s9 :: s10 :: s11 :: s12 :: s13 :: s14 :: s15 :: s16 :: s17 :: s18 :: s19 :: s20 :: some (.r o) :: r) = .ok o := (rfl)
@[simp] theorem tN_21 {s0 s1 s2 s3 s4 s5 s6 s7 s8 s9 s10 s11 s12 s13 s14 s15 s16 s17 s18 s19 s20 : Option Sl} {o : O} {x : Option Sl} {r : Env} : tN 21 o (s0 :: s1 :: s2 :: s3 :: s4 :: s5 :: s6 :: s7 :: s8 :: s9 :: s10 :: s11 :: s12 :: s13 :: s14 :: s15 :: s16 :: s17 :: s18 :: s19 :: s20 :: x :: r) = some (s0 :: s1 :: s2 :: s3 :: s4 :: s5 :: s6 :: s7 :: s8 :: s9 :: s10 :: s11 :: s12 :: s13 :: s14 :: s15 :: s16 :: s17 :: s18 :: s19 :: s20 :: some (.w o) :: r) := (rfl)
@[simp] theorem tNr_21 {s0 s1 s2 s3 s4 s5 s6 s7 s8 s9 s10 s11 s12 s13 s14 s15 s16 s17 s18 s19 s20 : Option Sl} {o : O} {x : Option Sl} {r : Env} : tNr 21 o (s0 :: s1 :: s2 :: s3 :: s4 :: s5 :: s6 :: s7 :: s8 :: s9 :: s10 :: s11 :: s12 :: s13 :: s14 :: s15 :: s16 :: s17 :: s18 :: s19 :: s20 :: x :: r) = some (s0 :: s1 :: s2 :: s3 :: s4 :: s5 :: s6 :: s7 :: s8 :: s9 :: s10 :: s11 :: s12 :: s13 :: s14 :: s15 :: s16 :: s17 :: s18 :: s19 :: s20 :: some (lent o) :: r) := (rfl)
@[simp] theorem sRetMv_21 {s0 s1 s2 s3 s4 s5 s6 s7 s8 s9 s10 s11 s12 s13 s14 s15 s16 s17 s18 s19 s20 : Option Sl} {o : O} {r : Env} : sRetMv 21 (s0 :: s1 :: s2 :: s3 :: s4 :: s5 :: s6 :: s7 :: s8 :: s9 :: s10 :: s11 :: s12 :: s13 :: s14 :: s15 :: s16 :: s17 :: s18 :: s19 :: s20 :: some (.w o) :: r) = .rt o := (rfl)
@[simp] theorem frz_21 {s0 s1 s2 s3 s4 s5 s6 s7 s8 s9 s10 s11 s12 s13 s14 s15 s16 s17 s18 s19 s20 : Option Sl} {o : O} {r : Env} : frz 21 (s0 :: s1 :: s2 :: s3 :: s4 :: s5 :: s6 :: s7 :: s8 :: s9 :: s10 :: s11 :: s12 :: s13 :: s14 :: s15 :: s16 :: s17 :: s18 :: s19 :: s20 :: some (.w o) :: r) = if nS o then s0 :: s1 :: s2 :: s3 :: s4 :: s5 :: s6 :: s7 :: s8 :: s9 :: s10 :: s11 :: s12 :: s13 :: s14 :: s15 :: s16 :: s17 :: s18 :: s19 :: s20 :: some (.w (.z (strip o))) :: r else s0 :: s1 :: s2 :: s3 :: s4 :: s5 :: s6 :: s7 :: s8 :: s9 :: s10 :: s11 :: s12 :: s13 :: s14 :: s15 :: s16 :: s17 :: s18 :: s19 :: s20 :: some (.w o) :: r := by unfold frz; rfl
@[simp] theorem sApp_21 {s0 s1 s2 s3 s4 s5 s6 s7 s8 s9 s10 s11 s12 s13 s14 s15 s16 s17 s18 s19 s20 : Option Sl} {os : List O} {r : Env} {e : EV} : sApp 21 e (s0 :: s1 :: s2 :: s3 :: s4 :: s5 :: s6 :: s7 :: s8 :: s9 :: s10 :: s11 :: s12 :: s13 :: s14 :: s15 :: s16 :: s17 :: s18 :: s19 :: s20 :: some (.w (.l os)) :: r) = (e (s0 :: s1 :: s2 :: s3 :: s4 :: s5 :: s6 :: s7 :: s8 :: s9 :: s10 :: s11 :: s12 :: s13 :: s14 :: s15 :: s16 :: s17 :: s18 :: s19 :: s20 :: some (.w (.l os)) :: r)).out (s0 :: s1 :: s2 :: s3 :: s4 :: s5 :: s6 :: s7 :: s8 :: s9 :: s10 :: s11 :: s12 :: s13 :: s14 :: s15 :: s16 :: s17 :: s18 :: s19 :: s20 :: some (.w (.l os)) :: r) fun o => if os.length < lineMax ∧ nS o = true then .nx (s0 :: s1 :: s2 :: s3 :: s4 :: s5 :: s6 :: s7 :: s8 :: s9 :: s10 :: s11 :: s12 :: s13 :: s14 :: s15 :: s16 :: s17 :: s18 :: s19 :: s20 :: some (.w (.l (os ++ [o]))) :: r) else .bad := (rfl)
@[simp] theorem sAug_21 {s0 s1 s2 s3 s4 s5 s6 s7 s8 s9 s10 s11 s12 s13 s14 s15 s16 s17 s18 s19 s20 : Option Sl} {a : Int} {r : Env} {g : Int → Int → Int} {e : EV} : sAug 21 g e (s0 :: s1 :: s2 :: s3 :: s4 :: s5 :: s6 :: s7 :: s8 :: s9 :: s10 :: s11 :: s12 :: s13 :: s14 :: s15 :: s16 :: s17 :: s18 :: s19 :: s20 :: some (.w (.z (.int a))) :: r) = (e (s0 :: s1 :: s2 :: s3 :: s4 :: s5 :: s6 :: s7 :: s8 :: s9 :: s10 :: s11 :: s12 :: s13 :: s14 :: s15 :: s16 :: s17 :: s18 :: s19 :: s20 :: some (.w (.z (.int a))) :: r)).out (s0 :: s1 :: s2 :: s3 :: s4 :: s5 :: s6 :: s7 :: s8 :: s9 :: s10 :: s11 :: s12 :: s13 :: s14 :: s15 :: s16 :: s17 :: s18 :: s19 :: s20 :: some (.w (.z (.int a))) :: r) fun b => match b with | .z (.int b) => .nx (s0 :: s1 :: s2 :: s3 :: s4 :: s5 :: s6 :: s7 :: s8 :: s9 :: s10 :: s11 :: s12 :: s13 :: s14 :: s15 :: s16 :: s17 :: s18 :: s19 :: s20 :: some (.w (.z (.int (g a b)))) :: r) | _ => .bad := (rfl)
@[simp] theorem eVar_w22 {s0 s1 s2 s3 s4 s5 s6 s7 s8 s9 s10 s11 s12 s13 s14 s15 s16 s17 s18 s19 s20 s21 : Option Sl} {o : O} {r : Env} : eVar 22 (s0 :: s1 :: s2 :: s3 :: s4 :: s5 :: s6 :: s7 :: s8 :: s9 :: s10 :: s11 :: s12 :: s13 :: s14 :: s15 :: s16 :: s17 :: s18 :: s19 :: s20 :: s21 :: some (.w o) :: r) = .ok o := (rfl)
@[simp] theorem eVar_r22 {s0 s1 s2 s3 s4 s5 s6 s7 s8 s9 s10 s11 s12 s13 s14 s15 s16 s17 s18 s19 s20 s21 : Option Sl} {o : O} {r : Env} : eVar 22 (s0 :: s1 :: s2 :: s3 :: s4 :: s5 :: s6 :: s7 :: s8 :: s9 :: s10 :: s11 :: s12 :: s13 :: s14 :: s15 :: s16 :: s17 :: s18 :: s19 :: s20 :: s21 :: some (.r o) :: r) = .ok o := (rfl)
@[simp] theorem tN_22 {s0 s1 s2 s3 s4 s5 s6 s7 s8 s9 s10 s11 s12 s13 s14 s15 s16 s17 s18 s19 s20 s21 : Option Sl} {o : O} {x : Option Sl} {r : Env} : tN 22 o (s0 :: s1 :: s2 :: s3 :: s4 :: s5 :: s6 :: s7 :: s8 :: s9 :: s10 :: s11 :: s12 :: s13 :: s14 :: s15 :: s16 :: s17 :: s18 :: s19 :: s20 :: s21 :: x :: r) = some (s0 :: s1 :: s2 :: s3 :: s4 :: s5 :: s6 :: s7 :: s8 :: s9 :: s10 :: s11 :: s12 :: s13 :: s14 :: s15 :: s16 :: s17 :: s18 :: s19 :: s20 :: s21 :: some (.w o) :: r) := (rfl)
@[simp] theorem tNr_22 {s0 s1 s2 s3 s4 s5 s6 s7 s8 s9 s10 s11 s12 s13 s14 s15 s16 s17 s18 s19 s20 s21 : Option Sl} {o : O} {x : Option Sl} {r : Env} : tNr 22 o (s0 :: s1 :: s2 :: s3 :: s4 :: s5 :: s6 :: s7 :: s8 :: s9 :: s10 :: s11 :: s12 :: s13 :: s14 :: s15 :: s16 :: s17 :: s18 :: s19 :: s20 :: s21 :: x :: r) = some (s0 :: s1 :: s2 :: s3 :: s4 :: s5 :: s6 :: s7 :: s8 :: s9 :: s10 :: s11 :: s12 :: s13 :: s14 :: s15 :: s16 :: s17 :: s18 :: s19 :: s20 :: s21 :: some (lent o) :: r) := (rfl)
@[simp] theorem sRetMv_22 {s0 s1 s2 s3 s4 s5 s6 s7 s8 s9 s10 s11 s12 s13 s14 s15 s16 s17 s18 s19 s20 s21 : Option Sl} {o : O} {r : Env} : sRetMv 22 (s0 :: s1 :: s2 :: s3 :: s4 :: s5 :: s6 :: s7 :: s8 :: s9 :: s10 :: s11 :: s12 :: s13 :: s14 :: s15 :: s16 :: s17 :: s18 :: s19 :: s20 :: s21 :: some (.w o) :: r) = .rt o := (rfl)
@[simp] theorem frz_22 {s0 s1 s2 s3 s4 s5 s6 s7 s8 s9 s10 s11 s12 s13 s14 s15 s16 s17 s18 s19 s20 s21 : Option Sl} {o : O} {r : Env} : frz 22 (s0 :: s1 :: s2 :: s3 :: s4 :: s5 :: s6 :: s7 :: s8 :: s9 :: s10 :: s11 :: s12 :: s13 :: s14 :: s15 :: s16 :: s17 :: s18 :: s19 :: s20 :: s21 :: some (.w o) :: r) = if nS o then s0 :: s1 :: s2 :: s3 :: s4 :: s5 :: s6 :: s7 :: s8 :: s9 :: s10 :: s11 :: s12 :: s13 :: s14 :: s15 :: s16 :: s17 :: s18 :: s19 :: s20 :: s21 :: some (.w (.z (strip o))) :: r else s0 :: s1 :: s2 :: s3 :: s4 :: s5 :: s6 :: s7 :: s8 :: s9 :: s10 :: s11 :: s12 :: s13 :: s14 :: s15 :: s16 :: s17 :: s18 :: s19 :: s20 :: s21 :: some (.w o) :: r := by unfold frz; rfl
@[simp] theorem sApp_22 {s0 s1 s2 s3 s4 s5 s6 s7 s8 s9 s10 s11 s12 s13 s14 s15 s16 s17 s18 s19 s20 s21 : Option Sl} {os : List O} {r : Env} {e : EV} : sApp 22 e (s0 :: s1 :: s2 :: s3 :: s4 :: s5 :: s6 :: s7 :: s8 :: s9 :: s10 :: s11 :: s12 :: s13 :: s14 :: s15 :: s16 :: s17 :: s18 :: s19 :: s20 :: s21 :: some (.w (.l os)) :: r) = (e (s0 :: s1 :: s2 :: s3 :: s4 :: s5 :: s6 :: s7 :: s8 :: s9 :: s10 :: s11 :: s12 :: s13 :: s14 :: s15 :: s16 :: s17 :: s18 :: s19 :: s20 :: s21 :: some (.w (.l os)) :: r)).out (s0 :: s1 :: s2 :: s3 :: s4 :: s5 :: s6 :: s7 :: s8 :: s9 :: s10 :: s11 :: s12 :: s13 :: s14 :: s15 :: s16 :: s17 :: s18 :: s19 :: s20 :: s21 :: some (.w (.l os)) :: r) fun o => if os.length < lineMax ∧ nS o = true then .nx (s0 :: s1 :: s2 :: s3 :: s4 :: s5 :: s6 :: s7 :: s8 :: s9 :: s10 :: s11 :: s12 :: s13 :: s14 :: s15 :: s16 :: s17 :: s18 :: s19 :: s20 :: s21 :: some (.w (.l (os ++ [o]))) :: r) else .bad := (rfl)
@[simp] theorem sAug_22 {s0 s1 s2 s3 s4 s5 s6 s7 s8 s9 s10 s11 s12 s13 s14 s15 s16 s17 s18 s19 s20 s21 : Option Sl} {a : Int} {r : Env} {g : Int → Int → Int} {e : EV} : sAug 22 g e (s0 :: s1 :: s2 :: s3 :: s4 :: s5 :: s6 :: s7 :: s8 :: s9 :: s10 :: s11 :: s12 :: s13 :: s14 :: s15 :: s16 :: s17 :: s18 :: s19 :: s20 :: s21 :: some (.w (.z (.int a))) :: r) = (e (s0 :: s1 :: s2 :: s3 :: s4 :: s5 :: s6 :: s7 :: s8 :: s9 :: s10 :: s11 :: s12 :: s13 :: s14 :: s15 :: s16 :: s17 :: s18 :: s19 :: s20 :: s21 :: some (.w (.z (.int a))) :: r)).out (s0 :: s1 :: s2 :: s3 :: s4 :: s5 :: s6 :: s7 :: s8 :: s9 :: s10 :: s11 :: s12 :: s13 :: s14 :: s15 :: s16 :: s17 :: s18 :: s19 :: s20 :: s21 :: some (.w (.z (.int a))) :: r) fun b => match b with | .z (.int b) => .nx (s0 :: s1 :: s2 :: s3 :: s4 :: s5 :: s6 :: s7 :: s8 :: s9 :: s10 :: s11 :: s12 :: s13 :: s14 :: s15 :: s16 :: s17 :: s18 :: s19 :: s20 :: s21 :: some (.w (.z (.int (g a b)))) :: r) | _ => .bad := (rfl)
@[simp] theorem eVar_w23 {s0 s1 s2 s3 s4 s5 s6 s7 s8 s9 s10 s11 s12 s13 s14 s15 s16 s17 s18 s19 s20 s21 s22 : Option Sl} {o : O} {r : Env} : eVar 23 (s0 :: s1 :: s2 :: s3 :: s4 :: s5 :: s6 :: s7 :: s8 :: s9 :: s10 :: s11 :: s12 :: s13 :: s14 :: s15 :: s16 :: s17 :: s18 :: s19 :: s20 :: s21 :: s22 :: some (.w o) :: r) = .ok o := (rfl)
@[simp] theorem eVar_r23 {s0 s1 s2 s3 s4 s5 s6 s7 s8 s9 s10 s11 s12 s13 s14 s15 s16 s17 s18 s19 s20 s21 s22 : Option Sl} {o : O} {r : Env} : eVar 23 (s0 :: s1 :: s2 :: s3 :: s4 :: s5 :: s6 :: s7 :: s8 :: s9 :: s10 :: s11 :: s12 :: s13 :: s14 :: s15 :: s16 :: s17 :: s18 :: s19 :: s20 :: s21 :: s22 :: some (.r o) :: r) = .ok o := (rfl)
@[simp] theorem tN_23 {s0 s1 s2 s3 s4 s5 s6 s7 s8 s9 s10 s11 s12 s13 s14 s15 s16 s17 s18 s19 s20 s21 s22 : Option Sl} {o : O} {x : Option Sl} {r : Env} : tN 23 o (s0 :: s1 :: s2 :: s3 :: s4 :: s5 :: s6 :: s7 :: s8 :: s9 :: s10 :: s11 :: s12 :: s13 :: s14 :: s15 :: s16 :: s17 :: s18 :: s19 :: s20 :: s21 :: s22 :: x :: r) = some (s0 :: s1 :: s2 :: s3 :: s4 :: s5 :: s6 :: s7 :: s8 :: s9 :: s10 :: s11 :: s12 :: s13 :: s14 :: s15 :: s16 :: s17 :: s18 :: s19 :: s20 :: s21 :: s22 :: some (.w o) :: r) := (rfl)
@[simp] theorem tNr_23 {s0 s1 s2 s3 s4 s5 s6 s7 s8 s9 s10 s11 s12 s13 s14 s15 s16 s17 s18 s19 s20 s21 s22 : Option Sl} {o : O} {x : Option Sl} {r : Env} : tNr 23 o (s0 :: s1 :: s2 :: s3 :: s4 :: s5 :: s6 :: s7 :: s8 :: s9 :: s10 :: s11 :: s12 :: s13 :: s14 :: s15 :: s16 :: s17 :: s18 :: s19 :: s20 :: s21 :: s22 :: x :: r) = some (s0 :: s1 :: s2 :: s3 :: s4 :: s5 :: s6 :: s7 :: s8 :: s9 :: s10 :: s11 :: s12 :: s13 :: s14 :: s15 :: s16 :: s17 :: s18 :: s19 :: s20 :: s21 :: s22 :: some (lent o) :: r) := (rfl)
@[simp] theorem sRetMv_23 {s0 s1 s2 s3 s4 s5 s6 s7 s8 s9 s10 s11 s12 s13 s14 s15 s16 s17 s18 s19 s20 s21 s22 : Option Sl} {o : O} {r : Env} : sRetMv 23 (s0 :: s1 :: s2 :: s3 :: s4 :: s5 :: s6 :: s7 :: s8 :: s9 :: s10 :: s11 :: s12 :: s13 :: s14 :: s15 :: s16 :: s17 :: s18 :: s19 :: s20 :: s21 :: s22 :: some (.w o) :: r) = .rt o := (rfl)
@[simp] theorem frz_23 {s0 s1 s2 s3 s4 s5 s6 s7 s8 s9 s10 s11 s12 s13 s14 s15 s16 s17 s18 s19 s20 s21 s22 : Option Sl} {o : O} {r : Env} : frz 23 (s0 :: s1 :: s2 :: s3 :: s4 :: s5 :: s6 :: s7 :: s8 :: s9 :: s10 :: s11 :: s12 :: s13 :: s14 :: s15 :: s16 :: s17 :: s18 :: s19 :: s20 :: s21 :: s22 :: some (.w o) :: r) = if nS o then s0 :: s1 :: s2 :: s3 :: s4 :: s5 :: s6 :: s7 :: s8 :: s9 :: s10 :: s11 :: s12 :: s13 :: s14 :: s15 :: s16 :: s17 :: s18 :: s19 :: s20 :: s21 :: s22 :: some (.w (.z (strip o))) :: r else s0 :: s1 :: s2 :: s3 :: s4 :: s5 :: s6 :: s7 :: s8 :: s9 :: s10 :: s11 :: s12 :: s13 :: s14 :: s15 :: s16 :: s17 :: s18 :: s19 :: s20 :: s21 :: s22 :: some (.w o) :: r := by unfold frz; rfl
@[simp] theorem sApp_23 {s0 s1 s2 s3 s4 s5 s6 s7 s8 s9 s10 s11 s12 s13 s14 s15 s16 s17 s18 s19 s20 s21 s22 : Option Sl} {os : List O} {r : Env} {e : EV} : sApp 23 e (s0 :: s1 :: s2 :: s3 :: s4 :: s5 :: s6 :: s7 :: s8 :: s9 :: s10 :: s11 :: s12 :: s13 :: s14 :: s15 :: s16 :: s17 :: s18 :: s19 :: s20 :: s21 :: s22 :: some (.w (.l os)) :: r) = (e (s0 :: s1 :: s2 :: s3 :: s4 :: s5 :: s6 :: s7 :: s8 :: s9 :: s10 :: s11 :: s12 :: s13 :: s14 :: s15 :: s16 :: s17 :: s18 :: s19 :: s20 :: s21 :: s22 :: some (.w (.l os)) :: r)).out (s0 :: s1 :: s2 :: s3 :: s4 :: s5 :: s6 :: s7 :: s8 :: s9 :: s10 :: s11 :: s12 :: s13 :: s14 :: s15 :: s16 :: s17 :: s18 :: s19 :: s20 :: s21 :: s22 :: some (.w (.l os)) :: r) fun o => if os.length < lineMax ∧ nS o = true then .nx (s0 :: s1 :: s2 :: s3 :: s4 :: s5 :: s6 :: s7 :: s8 :: s9 :: s10 :: s11 :: s12 :: s13 :: s14 :: s15 :: s16 :: s17 :: s18 :: s19 :: s20 :: s21 :: s22 :: some (.w (.l (os ++ [o]))) :: r) else .bad := (rfl)
@[simp] theorem sAug_23 {s0 s1 s2 s3 s4 s5 s6 s7 s8 s9 s10 s11 s12 s13 s14 s15 s16 s17 s18 s19 s20 s21 s22 : Option Sl} {a : Int} {r : Env} {g : Int → Int → Int} {e : EV} : sAug 23 g e (s0 :: s1 :: s2 :: s3 :: s4 :: s5 :: s6 :: s7 :: s8 :: s9 :: s10 :: s11 :: s12 :: s13 :: s14 :: s15 :: s16 :: s17 :: s18 :: s19 :: s20 :: s21 :: s22 :: some (.w (.z (.int a))) :: r) = (e (s0 :: s1 :: s2 :: s3 :: s4 :: s5 :: s6 :: s7 :: s8 :: s9 :: s10 :: s11 :: s12 :: s13 :: s14 :: s15 :: s16 :: s17 :: s18 :: s19 :: s20 :: s21 :: s22 :: some (.w (.z (.int a))) :: r)).out (s0 :: s1 :: s2 :: s3 :: s4 :: s5 :: s6 :: s7 :: s8 :: s9 :: s10 :: s11 :: s12 :: s13 :: s14 :: s15 :: s16 :: s17 :: s18 :: s19 :: s20 :: s21 :: s22 :: some (.w (.z (.int a))) :: r) fun b => match b with | .z (.int b) => .nx (s0 :: s1 :: s2 :: s3 :: s4 :: s5 :: s6 :: s7 :: s8 :: s9 :: s10 :: s11 :: s12 :: s13 :: s14 :: s15 :: s16 :: s17 :: s18 :: s19 :: s20 :: s21 :: s22 :: some (.w (.z (.int (g a b)))) :: r) | _ => .bad := (rfl)
@[simp] theorem eVar_w24 {s0 s1 s2 s3 s4 s5 s6 s7 s8 s9 s10 s11 s12 s13 s14 s15 s16 s17 s18 s19 s20 s21 s22 s23 : Option Sl} {o : O} {r : Env} : eVar 24 (s0 :: s1 :: s2 :: s3 :: s4 :: s5 :: s6 :: s7 :: s8 :: s9 :: s10 :: s11 :: s12 :: s13 :: s14 :: s15 :: s16 :: s17 :: s18 :: s19 :: s20 :: s21 :: s22 :: s23 :: some (.w o) :: r) = .ok o := (rfl)
@[simp] theorem eVar_r24 {s0 s1 s2 s3 s4 s5 s6 s7 s8 s9 s10 s11 s12 s13 s14 s15 s16 s17 s18 s19 s20 s21 s22 s23 : Option Sl} {o : O} {r : Env} : eVar 24 (s0 :: s1 :: s2 :: s3 :: s4 :: s5 :: s6 :: s7 :: s8 :: s9 :: s10 :: s11 :: s12 :: s13 :: s14 :: s15 :: s16 :: s17 :: s18 :: s19 :: s20 :: s21 :: s22 :: s23 :: some (.r o) :: r) = .ok o := (rfl)
@[simp] theorem tN_24 {s0 s1 s2 s3 s4 s5 s6 s7 s8 s9 s10 s11 s12 s13 s14 s15 s16 s17 s18 s19 s20 s21 s22 s23 : Option Sl} {o : O} {x : Option Sl} {r : Env} : tN 24 o (s0 :: s1 :: s2 :: s3 :: s4 :: s5 :: s6 :: s7 :: s8 :: s9 :: s10 :: s11 :: s12 :: s13 :: s14 :: s15 :: s16 :: s17 :: s18 :: s19 :: s20 :: s21 :: s22 :: s23 :: x :: r) = some (s0 :: s1 :: s2 :: s3 :: s4 :: s5 :: s6 :: s7 :: s8 :: s9 :: s10 :: s11 :: s12 :: s13 :: s14 :: s15 :: s16 :: s17 :: s18 :: s19 :: s20 :: s21 :: s22 :: s23 :: some (.w o) :: r) := (rfl)
@[simp] theorem tNr_24 {s0 s1 s2 s3 s4 s5 s6 s7 s8 s9 s10 s11 s12 s13 s14 s15 s16 s17 s18 s19 s20 s21 s22 s23 : Option Sl} {o : O} {x : Option Sl} {r : Env} : tNr 24 o (s0 :: s1 :: s2 :: s3 :: s4 :: s5 :: s6 :: s7 :: s8 :: s9 :: s10 :: s11 :: s12 :: s13 :: s14 :: s15 :: s16 :: s17 :: s18 :: s19 :: s20 :: s21 :: s22 :: s23 :: x :: r) = some (s0 :: s1 :: s2 :: s3 :: s4 :: s5 :: s6 :: s7 :: s8 :: s9 :: s10 :: s11 :: s12 :: s13 :: s14 :: s15 :: s16 :: s17 :: s18 :: s19 :: s20 :: s21 :: s22 :: s23 :: some (lent o) :: r) := (rfl)
@[simp] theorem sRetMv_24 {s0 s1 s2 s3 s4 s5 s6 s7 s8 s9 s10 s11 s12 s13 s14 s15 s16 s17 s18 s19 s20 s21 s22 s23 : Option Sl} {o : O} {r : Env} : sRetMv 24 (s0 :: s1 :: s2 :: s3 :: s4 :: s5 :: s6 :: s7 :: s8 :: s9 :: s10 :: s11 :: s12 :: s13 :: s14 :: s15 :: s16 :: s17 :: s18 :: s19 :: s20 :: s21 :: s22 :: s23 :: some (.w o) :: r) = .rt o := (rfl)
@[simp] theorem frz_24 {s0 s1 s2 s3 s4 s5 s6 s7 s8 s9 s10 s11 s12 s13 s14 s15 s16 s17 s18 s19 s20 s21 s22 s23 : Option Sl} {o : O} {r : Env} : frz 24 (s0 :: s1 :: s2 :: s3 :: s4 :: s5 :: s6 :: s7 :: s8 :: s9 :: s10 :: s11 :: s12 :: s13 :: s14 :: s15 :: s16 :: s17 :: s18 :: s19 :: s20 :: s21 :: s22 :: s23 :: some (.w o) :: r) = if nS o then s0 :: s1 :: s2 :: s3 :: s4 :: s5 :: s6 :: s7 :: s8 :: s9 :: s10 :: s11 :: s12 :: s13 :: s14 :: s15 :: s16 :: s17 :: s18 :: s19 :: s20 :: s21 :: s22 :: s23 :: some (.w (.z (strip o))) :: r else s0 :: s1 :: s2 :: s3 :: s4 :: s5 :: s6 :: s7 :: s8 :: s9 :: s10 :: s11 :: s12 :: s13 :: s14 :: s15 :: s16 :: s17 :: s18 :: s19 :: s20 :: s21 :: s22 :: s23 :: some (.w o) :: r := by unfold frz; rfl
@[simp] theorem sApp_24 {s0 s1 s2 s3 s4 s5 s6 s7 s8 s9 s10 s11 s12 s13 s14 s15 s16 s17 s18 s19 s20 s21 s22 s23 : Option Sl} {os : List O} {r : Env} {e : EV} : sApp 24 e (s0 :: s1 :: s2 :: s3 :: s4 :: s5 :: s6 :: s7 :: s8 :: s9 :: s10 :: s11 :: s12 :: s13 :: s14 :: s15 :: s16 :: s17 :: s18 :: s19 :: s20 :: s21 :: s22 :: s23 :: some (.w (.l os)) :: r) = (e (s0 :: s1 :: s2 :: s3 :: s4 :: s5 :: s6 :: s7 :: s8 :: s9 :: s10 :: s11 :: s12 :: s13 :: s14 :: s15 :: s16 :: s17 :: s18 :: s19 :: s20 :: s21 :: s22 :: s23 :: some (.w (.l os)) :: r)).out (s0 :: s1 :: s2 :: s3 :: s4 :: s5 :: s6 :: s7 :: s8 :: s9 :: s10 :: s11 :: s12 :: s13 :: s14 :: s15 :: s16 :: s17 :: s18 :: s19 :: s20 :: s21 :: s22 :: s23 :: some (.w (.l os)) :: r) fun o => if os.length < lineMax ∧ nS o = true then .nx (s0 :: s1 :: s2 :: s3 :: s4 :: s5 :: s6 :: s7 :: s8 :: s9 :: s10 :: s11 :: s12 :: s13 :: s14 :: s15 :: s16 :: s17 :: s18 :: s19 :: s20 :: s21 :: s22 :: s23 :: some (.w (.l (os ++ [o]))) :: r) else .bad := (rfl)
@[simp] theorem sAug_24 {s0 s1 s2 s3 s4 s5 s6 s7 s8 s9 s10 s11 s12 s13 s14 s15 s16 s17 s18 s19 s20 s21 s22 s23 : Option Sl} {a : Int} {r : Env} {g : Int → Int → Int} {e : EV} : sAug 24 g e (s0 :: s1 :: s2 :: s3 :: s4 :: s5 :: s6 :: s7 :: s8 :: s9 :: s10 :: s11 :: s12 :: s13 :: s14 :: s15 :: s16 :: s17 :: s18 :: s19 :: s20 :: s21 :: s22 :: s23 :: some (.w (.z (.int a))) :: r) = (e (s0 :: s1 :: s2 :: s3 :: s4 :: s5 :: s6 :: s7 :: s8 :: s9 :: s10 :: s11 :: s12 :: s13 :: s14 :: s15 :: s16 :: s17 :: s18 :: s19 :: s20 :: s21 :: s22 :: s23 :: some (.w (.z (.int a))) :: r)).out (s0 :: s1 :: s2 :: s3 :: s4 :: s5 :: s6 :: s7 :: s8 :: s9 :: s10 :: s11 :: s12 :: s13 :: s14 :: s15 :: s16 :: s17 :: s18 :: s19 :: s20 :: s21 :: s22 :: s23 :: some (.w (.z (.int a))) :: r) fun b => match b with | .z (.int b) => .nx (s0 :: s1 :: s2 :: s3 :: s4 :: s5 :: s6 :: s7 :: s8 :: s9 :: s10 :: s11 :: s12 :: s13 :: s14 :: s15 :: s16 :: s17 :: s18 :: s19 :: s20 :: s21 :: s22 :: s23 :: some (.w (.z (.int (g a b)))) :: r) | _ => .bad := (rfl)
@[simp] theorem eVar_w25 {s0 s1 s2 s3 s4 s5 s6 s7 s8 s9 s10 s11 s12 s13 s14 s15 s16 s17 s18 s19 s20 s21 s22 s23 s24 : Option Sl} {o : O} {r : Env} : eVar 25 (s0 :: s1 :: s2 :: s3 :: s4 :: s5 :: s6 :: s7 :: s8 :: s9 :: s10 :: s11 :: s12 :: s13 :: s14 :: s15 :: s16 :: s17 :: s18 :: s19 :: s20 :: s21 :: s22 :: s23 :: s24 :: some (.w o) :: r) = .ok o := (rfl)
@[simp] theorem eVar_r25 {s0 s1 s2 s3 s4 s5 s6 s7 s8 s9 s10 s11 s12 s13 s14 s15 s16 s17 s18 s19 s20 s21 s22 s23 s24 : Option Sl} {o : O} {r : Env} : eVar 25 (s0 :: s1 :: s2 :: s3 :: s4 :: s5 :: s6 :: s7 :: s8 :: s9 :: s10 :: s11 :: s12 :: s13 :: s14 :: s15 :: s16 :: s17 :: s18 :: s19 :: s20 :: s21 :: s22 :: s23 :: s24 :: some (.r o) :: r) = .ok o := (rfl)
@[simp] theorem tN_25 {s0 s1 s2 s3 s4 s5 s6 s7 s8 s9 s10 s11 s12 s13 s14 s15 s16 s17 s18 s19 s20 s21 s22 s23 s24 : Option Sl} {o : O} {x : Option Sl} {r : Env} : tN 25 o (s0 :: s1 :: s2 :: s3 :: s4 :: s5 :: s6 :: s7 :: s8 :: s9 :: s10 :: s11 :: s12 :: s13 :: s14 :: s15 :: s16 :: s17 :: s18 :: s19 :: s20 :: s21 :: s22 :: s23 :: s24 :: x :: r) = some (s0 :: s1 :: s2 :: s3 :: s4 :: s5 :: s6 :: s7 :: s8 :: s9 :: s10 :: s11 :: s12 :: s13 :: s14 :: s15 :: s16 :: s17 :: s18 :: s19 :: s20 :: s21 :: s22 :: s23 :: s24 :: some (.w o) :: r) := (rfl)
@[simp] theorem tNr_25 {s0 s1 s2 s3 s4 s5 s6 s7 s8 s9 s10 s11 s12 s13 s14 s15 s16 s17 s18 s19 s20 s21 s22 s23 s24 : Option Sl} {o : O} {x : Option Sl} {r : Env} : tNr 25 o (s0 :: s1 :: s2 :: s3 :: s4 :: s5 :: s6 :: s7 :: s8 :: s9 :: s10 :: s11 :: s12 :: s13 :: s14 :: s15 :: s16 :: s17 :: s18 :: s19 :: s20 :: s21 :: s22 :: s23 :: s24 :: x :: r) = some (s0 :: s1 :: s2 :: s3 :: s4 :: s5 :: s6 :: s7 :: s8 :: s9 :: s10 :: s11 :: s12 :: s13 :: s14 :: s15 :: s16 :: s17 :: s18 :: s19 :: s20 :: s21 :: s22 :: s23 :: s24 :: some (lent o) :: r) := (rfl)
@[simp] theorem sRetMv_25 {s0 s1 s2 s3 s4 s5 s6 s7 s8 s9 s10 s11 s12 s13 s14 s15 s16 s17 s18 s19 s20 s21 s22 s23 s24 : Option Sl} {o : O} {r : Env} : sRetMv 25 (s0 :: s1 :: s2 :: s3 :: s4 :: s5 :: s6 :: s7 :: s8 :: s9 :: s10 :: s11 :: s12 :: s13 :: s14 :: s15 :: s16 :: s17 :: s18 :: s19 :: s20 :: s21 :: s22 :: s23 :: s24 :: some (.w o) :: r) = .rt o := (rfl)
@[simp] theorem frz_25 {s0 s1 s2 s3 s4 s5 s6 s7 s8 s9 s10 s11 s12 s13 s14 s15 s16 s17 s18 s19 s20 s21 s22 s23 s24 : Option Sl} {o : O} {r : Env} : frz 25 (s0 :: s1 :: s2 :: s3 :: s4 :: s5 :: s6 :: s7 :: s8 :: s9 :: s10 :: s11 :: s12 :: s13 :: s14 :: s15 :: s16 :: s17 :: s18 :: s19 :: s20 :: s21 :: s22 :: s23 :: s24 :: some (.w o) :: r) = if nS o then s0 :: s1 :: s2 :: s3 :: s4 :: s5 :: s6 :: s7 :: s8 :: s9 :: s10 :: s11 :: s12 :: s13 :: s14 :: s15 :: s16 :: s17 :: s18 :: s19 :: s20 :: s21 :: s22 :: s23 :: s24 :: some (.w (.z (strip o))) :: r else s0 :: s1 :: s2 :: s3 :: s4 :: s5 :: s6 :: s7 :: s8 :: s9 :: s10 :: s11 :: s12 :: s13 :: s14 :: s15 :: s16 :: s17 :: s18 :: s19 :: s20 :: s21 :: s22 :: s23 :: s24 :: some (.w o) :: r := by unfold frz; rfl
@[simp] theorem sApp_25 {s0 s1 s2 s3 s4 s5 s6 s7 s8 s9 s10 s11 s12 s13 s14 s15 s16 s17 s18 s19 s20 s21 s22 s23 s24 : Option Sl} {os : List O} {r : Env} {e : EV} : sApp 25 e (s0 :: s1 :: s2 :: s3 :: s4 :: s5 :: s6 :: s7 :: s8 :: s9 :: s10 :: s11 :: s12 :: s13 :: s14 :: s15 :: s16 :: s17 :: s18 :: s19 :: s20 :: s21 :: s22 :: s23 :: s24 :: some (.w (.l os)) :: r) = (e (s0 :: s1 :: s2 :: s3 :: s4 :: s5 :: s6 :: s7 :: s8 :: s9 :: s10 :: s11 :: s12 :: s13 :: s14 :: s15 :: s16 :: s17 :: s18 :: s19 :: s20 :: s21 :: s22 :: s23 :: s24 :: some (.w (.l os)) :: r)).out (s0 :: s1 :: s2 :: s3 :: s4 :: s5 :: s6 :: s7 :: s8 :: s9 :: s10 :: s11 :: s12 :: s13 :: s14 :: s15 :: s16 :: s17 :: s18 :: s19 :: s20 :: s21 :: s22 :: s23 :: s24 :: some (.w (.l os)) :: r) fun o => if os.length < lineMax ∧ nS o = true then .nx (s0 :: s1 :: s2 :: s3 :: s4 :: s5 :: s6 :: s7 :: s8 :: s9 :: s10 :: s11 :: s12 :: s13 :: s14 :: s15 :: s16 :: s17 :: s18 :: s19 :: s20 :: s21 :: s22 :: s23 :: s24 :: some (.w (.l (os ++ [o]))) :: r) else .bad := (rfl)
@[simp] theorem sAug_25 {s0 s1 s2 s3 s4 s5 s6 s7 s8 s9 s10 s11 s12 s13 s14 s15 s16 s17 s18 s19 s20 s21 s22 s23 s24 : Option Sl} {a : Int} {r : Env} {g : Int → Int → Int} {e : EV} : sAug 25 g e (s0 :: s1 :: s2 :: s3 :: s4 :: s5 :: s6 :: s7 :: s8 :: s9 :: s10 :: s11 :: s12 :: s13 :: s14 :: s15 :: s16 :: s17 :: s18 :: s19 :: s20 :: s21 :: s22 :: s23 :: s24 :: some (.w (.z (.int a))) :: r) = (e (s0 :: s1 :: s2 :: s3 :: s4 :: s5 :: s6 :: s7 :: s8 :: s9 :: s10 :: s11 :: s12 :: s13 :: s14 :: s15 :: s16 :: s17 :: s18 :: s19 :: s20 :: s21 :: s22 :: s23 :: s24 :: some (.w (.z (.int a))) :: r)).out (s0 :: s1 :: s2 :: s3 :: s4 :: s5 :: s6 :: s7 :: s8 :: s9 :: s10 :: s11 :: s12 :: s13 :: s14 :: s15 :: s16 :: s17 :: s18 :: s19 :: s20 :: s21 :: s22 :: s23 :: s24 :: some (.w (.z (.int a))) :: r) fun b => match b with | .z (.int b) => .nx (s0 :: s1 :: s2 :: s3 :: s4 :: s5 :: s6 :: s7 :: s8 :: s9 :: s10 :: s11 :: s12 :: s13 :: s14 :: s15 :: s16 :: s17 :: s18 :: s19 :: s20 :: s21 :: s22 :: s23 :: s24 :: some (.w (.z (.int (g a b)))) :: r) | _ => .bad := (rfl)
section
variable {ρ : Env} {f g f1 f2 f3 : EV} {o : O} {d : PyData} {t u : EB} {fs gs : ES} {i j : Int} {ds es : List PyData} {os : List O}
@[simp] theorem eC_ok : eC d ρ = .ok (.z d) := (rfl)
@[simp] theorem e1_eq {k : O → Res O} : e1 k f ρ = (f ρ).bind fun a => (k a).nox := (rfl)
@[simp] theorem e2_eq {k : O → O → Res O} : e2 k f1 f2 ρ = (f1 ρ).bind fun a => (f2 ρ).bind fun b => (k a b).nox := (rfl)
@[simp] theorem eZ_eq : eZ f ρ = (f ρ).bind fun a => (gZ a).nox := (rfl)
@[simp] theorem eFz_eq : eFz f ρ = (f ρ).bind fun a => (gFz a).nox := (rfl)
@[simp] theorem gZ_z : gZ (.z d) = .ok (.z d) := (rfl)
@[simp] theorem gFz_z : gFz (.z d) = .ok (.z d) := by simp [gFz, nS]
@[simp] theorem gFz_l : gFz (.l os) = .ok (.z (.list (os.map strip))) := by simp [gFz, nS]
@[simp] theorem gFz_t : gFz (.t os) = .ok (.z (.tuple (os.map strip))) := by simp [gFz, nS]
@[simp] theorem nS_z : nS (.z d) = true := (rfl)
@[simp] theorem nS_l : nS (.l os) = true := (rfl)
@[simp] theorem nS_t : nS (.t os) = true := (rfl)
@[simp] theorem nox_bad {α : Type} : (Res.bad : Res α).nox = .bad := (rfl)
@[simp] theorem nox_err {α : Type} {c : Str} : (Res.err c d : Res α).nox = .bad := (rfl)
@[simp] theorem aNil_ok : aNil ρ = .ok [] := (rfl)
@[simp] theorem aCons_eq {r : EA} : aCons f r ρ = (f ρ).bind fun a => (r ρ).bind fun s => .ok (a :: s) := (rfl)
@[simp] theorem eK_eq {k : List O → Res O} {r : EA} : eK k r ρ = (r ρ).bind fun s => (k s).nox := (rfl)
@[simp] theorem eCall_eq {F : List O → Res O} {r : EA} : eCall F r ρ = (r ρ).bind F := (rfl)
@[simp] theorem tB_eq : tB f ρ = (f ρ).bind bool1 := (rfl)
@[simp] theorem bool1_ok {b : Bool} : bool1 (.z (.bool b)) = .ok b := (rfl)
@[simp] theorem tV_eq : tV f ρ = (f ρ).bind truth := (rfl)
@[simp] theorem tAnd_eq : tAnd t u ρ = (t ρ).bind fun b => if b then u ρ else .ok false := (rfl)
@[simp] theorem tOr_eq : tOr t u ρ = (t ρ).bind fun b => if b then .ok true else u ρ := (rfl)
@[simp] theorem tNot_eq : tNot t ρ = (t ρ).bind fun b => .ok (!b) := (rfl)
@[simp] theorem tYes_eq : tYes ρ = .ok true := (rfl)
@[simp] theorem eAnd_eq : eAnd f g ρ = (f ρ).bind fun a => (truth a).bind fun b => if b then g ρ else .ok a := (rfl)
@[simp] theorem eOr_eq : eOr f g ρ = (f ρ).bind fun a => (truth a).bind fun b => if b then .ok a else g ρ := (rfl)
@[simp] theorem eNot_eq : eNot f ρ = (f ρ).bind fun a => (truth a).bind fun b => .ok (.z (.bool (!b))) := (rfl)
@[simp] theorem eIf_eq : eIf t f g ρ = (t ρ).bind fun b => if b then f ρ else g ρ := (rfl)
@[simp] theorem truth_b {b : Bool} : truth (.z (.bool b)) = .ok b := (rfl)
@[simp] theorem truth_i : truth (.z (.int i)) = .ok (i != 0) := (rfl)
@[simp] theorem truth_n : truth (.z .none) = .ok false := (rfl)
@[simp] theorem truth_l : truth (.z (.list ds)) = .ok (!ds.isEmpty) := (rfl)
@[simp] theorem truth_t : truth (.z (.tuple ds)) = .ok (!ds.isEmpty) := (rfl)
@[simp] theorem truth_ol : truth (.l os) = .ok (!os.isEmpty) := (rfl)
@[simp] theorem eLst_eq {r : EA} : eLst r ρ = (r ρ).bind fun os => if os.length ≤ lineMax ∧ os.all nS = true then .ok (.l os) else .bad := (rfl)
@[simp] theorem eTup_eq {r : EA} : eTup r ρ = (r ρ).bind fun os => if os.length ≤ lineMax ∧ os.all nS = true then .ok (mkT os) else .bad := (rfl)
@[simp] theorem eCut_eq {p q : Env → Res (Option Int)} : eCut f p q ρ = (f ρ).bind fun a => (p ρ).bind fun i => (q ρ).bind fun j => (gCut a i j).nox := (rfl)
@[simp] theorem eRev_eq : eRev f ρ = (f ρ).bind fun a => (gRev a).nox := (rfl)
@[simp] theorem pNo_ok : pNo ρ = .ok none := (rfl)
theorem pSo_eq : pSo f ρ = (f ρ).bind fun o => match o with | .z (.int i) => .ok (some i) | _ => .bad := (rfl)
def int1 : O → Res (Option Int)
  | .z (.int i) => .ok (some i)
  | _ => .bad
@[simp] theorem pSo_int1 : pSo f ρ = (f ρ).bind int1 := by
  unfold pSo
  cases f ρ with
  | ok o => cases o with
    | z d => cases d <;> rfl
    | _ => rfl
  | _ => rfl
@[simp] theorem int1_i : int1 (.z (.int i)) = .ok (some i) := (rfl)
@[simp] theorem eIsi_eq {ty : Ty} : eIsi ty f ρ = (f ρ).bind fun a => (gIsi ty a).nox := (rfl)
@[simp] theorem gIsi_z {ty : Ty} : gIsi ty (.z d) = .ok (.z (.bool (isTy ty d))) := (rfl)
@[simp] theorem gIsi_l {ty : Ty} : gIsi ty (.l os) = .ok (.z (.bool (isTy ty (.list [])))) := (rfl)
/-- a chain's second half -/
def chn (r : O) (k : Unit → Res O) : Res O := match r with
  | .z (.bool true) => k ()
  | .z (.bool false) => .ok (.z (.bool false))
  | _ => .bad
@[simp] theorem eCh_eq {k k' : O → O → Res O} : eCh k k' f1 f2 f3 ρ = (f1 ρ).bind fun a => (f2 ρ).bind fun b => (k a b).nox.bind fun r => chn r fun _ => (f3 ρ).bind fun c => (k' b c).nox := (rfl)
@[simp] theorem chn_b {p q : Bool} : chn (.z (.bool p)) (fun _ => .ok (.z (.bool q))) = .ok (.z (.bool (p && q))) := by cases p <;> rfl
@[simp] theorem if_and {P : Prop} [Decidable P] {q : Bool} : (if P then Res.ok q else Res.ok false) = Res.ok (decide P && q) := by by_cases h : P <;> simp [h]
@[simp] theorem if_or {P : Prop} [Decidable P] {q : Bool} : (if P then Res.ok true else Res.ok q) = Res.ok (decide P || q) := by by_cases h : P <;> simp [h]
/-! operators at the shapes that come -/
@[simp] theorem gAdd_i : gAdd (.z (.int i)) (.z (.int j)) = .ok (.z (.int (i + j))) := (rfl)
@[simp] theorem lz_z : lz (.z (.list ds)) = some ds := by simp [lz, seqO]
@[simp] theorem lz_l : lz (.l (ds.map .z)) = some ds := by simp [lz, seqO]
@[simp] theorem tz_z : tz (.z (.tuple ds)) = some ds := by simp [tz, tupO]
@[simp] theorem lz_t : lz (.z (.tuple ds)) = none := (rfl)
@[simp] theorem gSub_i : gSub (.z (.int i)) (.z (.int j)) = .ok (.z (.int (i - j))) := (rfl)
@[simp] theorem gMul_l (h : -(2 ^ 64) < i ∧ i < 2 ^ 64) : gMul (.z (.int i)) (.z (.int j)) = .ok (.z (.int (i * j))) := by simp only [gMul]; rw [if_pos (.inl h)]
@[simp] theorem gMul_r (h : -(2 ^ 64) < j ∧ j < 2 ^ 64) : gMul (.z (.int i)) (.z (.int j)) = .ok (.z (.int (i * j))) := by simp only [gMul]; rw [if_pos (.inr h)]
@[simp] theorem gMod_p (h : 0 < j) : gMod (.z (.int i)) (.z (.int j)) = .ok (.z (.int (i % j))) := by
  simp only [gMod, gI]
  rw [if_pos (by omega), Int.fmod_eq_emod_of_nonneg _ (by omega)]; rfl
@[simp] theorem gDiv_p (h : 0 < j) (h2 : j < 1073741824) : gDiv (.z (.int i)) (.z (.int j)) = .ok (.z (.int (i / j))) := by
  simp only [gDiv, gI]
  rw [if_pos (by omega), Int.fdiv_eq_ediv_of_nonneg _ (by omega)]; rfl
@[simp] theorem gPow_ok (h : 0 ≤ j ∧ j ≤ 1000000 ∧ i.natAbs < 2 ^ 64) : gPow (.z (.int i)) (.z (.int j)) = .ok (.z (.int (i ^ j.toNat))) := by
  simp only [gPow, gI]; rw [if_pos h]; rfl
@[simp] theorem gNeg_i : gNeg (.z (.int i)) = .ok (.z (.int (-i))) := (rfl)
@[simp] theorem fine_i {n : Nat} : fine n (.int i) = true := by cases n <;> rfl
@[simp] theorem fine_n {n : Nat} : fine n .none = true := by cases n <;> rfl
@[simp] theorem fine_b {n : Nat} {b : Bool} : fine n (.bool b) = true := by cases n <;> rfl
theorem fines_all : ∀ {n : Nat} {ds : List PyData}, (∀ d ∈ ds, fine n d = true) → fines n ds = true
  | n, [], _ => by cases n <;> rfl
  | n, d :: ds, h => by rw [fines, h d List.mem_cons_self, fines_all fun e he => h e (List.mem_cons_of_mem _ he)]; rfl
theorem fine_l {n : Nat} (h : ∀ d ∈ ds, fine n d = true) : fine (n + 1) (.list ds) = true := by rw [fine]; exact fines_all h
theorem fine_t {n : Nat} (h : ∀ d ∈ ds, fine n d = true) : fine (n + 1) (.tuple ds) = true := by rw [fine]; exact fines_all h
@[simp] theorem gEq_i : gEq (.z (.int i)) (.z (.int j)) = .ok (.z (.bool (i == j))) := by simp [gEq, eqD]
@[simp] theorem gNe_i : gNe (.z (.int i)) (.z (.int j)) = .ok (.z (.bool (!(i == j)))) := by simp [gNe, eqD]
@[simp] theorem gIs_n : gIs o (.z .none) = .ok (.z (.bool (isNone o))) := (rfl)
@[simp] theorem gIsnt_n : gIsnt o (.z .none) = .ok (.z (.bool (!isNone o))) := (rfl)
@[simp] theorem isNone_n : isNone (.z .none) = true := (rfl)
@[simp] theorem isNone_i : isNone (.z (.int i)) = false := (rfl)
@[simp] theorem isNone_b {b : Bool} : isNone (.z (.bool b)) = false := (rfl)
@[simp] theorem isNone_zl : isNone (.z (.list ds)) = false := (rfl)
@[simp] theorem isNone_zt : isNone (.z (.tuple ds)) = false := (rfl)
@[simp] theorem isNone_l : isNone (.l os) = false := (rfl)
@[simp] theorem gLt_i : gLt (.z (.int i)) (.z (.int j)) = .ok (.z (.bool (decide (i < j)))) := (rfl)
@[simp] theorem gLe_i : gLe (.z (.int i)) (.z (.int j)) = .ok (.z (.bool (decide (i ≤ j)))) := (rfl)
@[simp] theorem gGt_i : gGt (.z (.int i)) (.z (.int j)) = .ok (.z (.bool (decide (j < i)))) := (rfl)
@[simp] theorem gGe_i : gGe (.z (.int i)) (.z (.int j)) = .ok (.z (.bool (decide (j ≤ i)))) := (rfl)
@[simp] theorem gEq_t2 {a b c e : Int} : gEq (.z (.tuple [.int a, .int b])) (.z (.tuple [.int c, .int e])) = .ok (.z (.bool (a == c && b == e))) := by simp [gEq, eqD, eqDs, fine, fines]
@[simp] theorem cut_2 {α : Type} {x y : α} {xs : List α} : cut (x :: y :: xs) none (some 2) = [x, y] := by
  have h : min 2 (xs.length + 1 + 1) = 2 := by omega
  simp [cut, bnd, h]
/-- an item, or none -/
def item : Option PyData → Res O
  | some d => .ok (.z d)
  | none => .bad
@[simp] theorem item_some : item (some d) = .ok (.z d) := (rfl)
theorem at_map {α β : Type} (k : α → β) (xs : List α) (i : Int) : at_ (xs.map k) i = (at_ xs i).map k := by
  unfold at_
  rw [List.length_map]
  split
  · rw [List.getElem?_map]
  · split
    · rw [List.getElem?_map]
    · rfl
theorem zOf_map (x : Option PyData) : zOf (x.map .z) = item x := by cases x <;> rfl
@[simp] theorem gIx_l : gIx (.z (.list ds)) (.z (.int i)) = item (at_ ds i) := by
  show zOf (at_ (ds.map .z) i) = _
  rw [at_map, zOf_map]
@[simp] theorem gIx_t : gIx (.z (.tuple ds)) (.z (.int i)) = item (at_ ds i) := by
  show zOf (at_ (ds.map .z) i) = _
  rw [at_map, zOf_map]
@[simp] theorem gIx_ol : gIx (.l (ds.map .z)) (.z (.int i)) = item (at_ ds i) := by
  show zOf (at_ (ds.map .z) i) = _
  rw [at_map, zOf_map]
theorem gIx_lo : gIx (.l os) (.z (.int i)) = zOf (at_ os i) := (rfl)
@[simp] theorem gIx_s {ns : List Int} : gIx (.s ns) (.z (.int i)) = item ((at_ ns i).map .int) := by
  show zOf ((at_ ns i).map fun n => .z (.int n)) = _
  cases at_ ns i <;> rfl
theorem at_n {α : Type} {xs : List α} {k : Nat} : at_ xs (k : Int) = xs[k]? := by
  unfold at_
  rw [if_pos (by omega), Int.toNat_natCast]
theorem at_p {α : Type} {xs : List α} (h : 0 ≤ i) : at_ xs i = xs[i.toNat]? := by
  unfold at_
  rw [if_pos h]
@[simp] theorem at_0 {α : Type} {x : α} {xs : List α} : at_ (x :: xs) 0 = some x := (rfl)
@[simp] theorem at_1 {α : Type} {x y : α} {xs : List α} : at_ (x :: y :: xs) 1 = some y := (rfl)
@[simp] theorem at_2 {α : Type} {x y z : α} {xs : List α} : at_ (x :: y :: z :: xs) 2 = some z := (rfl)
@[simp] theorem at_3 {α : Type} {x y z w : α} {xs : List α} : at_ (x :: y :: z :: w :: xs) 3 = some w := (rfl)
theorem at_last {α : Type} {x : α} {xs : List α} : at_ (xs ++ [x]) (-1) = some x := by
  unfold at_
  have e : ((-1 : Int) + ((xs ++ [x]).length : Int)).toNat = xs.length := by
    rw [List.length_append, List.length_singleton]; omega
  rw [if_neg (by omega), if_pos (by rw [List.length_append, List.length_singleton]; omega), e]
  simp
@[simp] theorem kLen_z : kLen [.z (.list ds)] = .ok (.z (.int ds.length)) := by simp [kLen, seqO]
@[simp] theorem kLen_t : kLen [.z (.tuple ds)] = .ok (.z (.int ds.length)) := by simp [kLen, seqO, tupO]
@[simp] theorem kLen_l : kLen [.l os] = .ok (.z (.int os.length)) := (rfl)
@[simp] theorem kLen_s {ns : List Int} : kLen [.s ns] = .ok (.z (.int ns.length)) := (rfl)
@[simp] theorem kAbs_i : kAbs [.z (.int i)] = .ok (.z (.int (if i < 0 then -i else i))) := (rfl)
@[simp] theorem kInt_i : kInt [.z (.int i)] = .ok (.z (.int i)) := (rfl)
@[simp] theorem kInt_b {b : Bool} : kInt [.z (.bool b)] = .ok (.z (.int (if b then 1 else 0))) := (rfl)
@[simp] theorem kMin2_i : kMin2 [.z (.int i), .z (.int j)] = .ok (.z (.int (if j < i then j else i))) := (rfl)
@[simp] theorem kMax2_i : kMax2 [.z (.int i), .z (.int j)] = .ok (.z (.int (if j > i then j else i))) := (rfl)
@[simp] theorem kList_l : kList [.z (.list ds)] = .ok (.l (ds.map .z)) := by simp [kList]
@[simp] theorem kList_t : kList [.z (.tuple ds)] = .ok (.l (ds.map .z)) := by simp [kList, lz, seqO]
@[simp] theorem gCut_l {lo hi : Option Int} : gCut (.z (.list ds)) lo hi = .ok (.l ((cut ds lo hi).map .z)) := by simp [gCut]
@[simp] theorem gCut_ol {lo hi : Option Int} : gCut (.l (ds.map .z)) lo hi = .ok (.l ((cut ds lo hi).map .z)) := by simp [gCut]
@[simp] theorem gCut_t {lo hi : Option Int} : gCut (.z (.tuple ds)) lo hi = .ok (.z (.tuple (cut ds lo hi))) := by simp [gCut]
@[simp] theorem gRev_l : gRev (.z (.list ds)) = .ok (.l (ds.reverse.map .z)) := by simp [gRev]
@[simp] theorem mkT_z : mkT (ds.map .z) = .z (.tuple ds) := by simp [mkT]
@[simp] theorem mkT_2 {a b : PyData} : mkT [.z a, .z b] = .z (.tuple [a, b]) := (rfl)
@[simp] theorem mkT_1 {a : PyData} : mkT [.z a] = .z (.tuple [a]) := (rfl)
@[simp] theorem mkT_0 : mkT [] = .z (.tuple []) := (rfl)
@[simp] theorem mkT_3 {a b c : PyData} : mkT [.z a, .z b, .z c] = .z (.tuple [a, b, c]) := (rfl)
@[simp] theorem mkT_4 {a b c e : PyData} : mkT [.z a, .z b, .z c, .z e] = .z (.tuple [a, b, c, e]) := (rfl)
@[simp] theorem strip_map : (ds.map O.z).map strip = ds := by simp [Function.comp_def]
@[simp] theorem iSeqZ_eq : iSeqZ f ρ = (f ρ).bind fun a => match a with | .z (.list ds) => .ok (ds.map .z) | .z (.tuple ds) => .ok (ds.map .z) | _ => .bad := (rfl)
@[simp] theorem ml_0 : 0 < lineMax := by decide
@[simp] theorem ml_1 : 1 < lineMax := by decide
@[simp] theorem ml_2 : 2 < lineMax := by decide
@[simp] theorem ml_3 : 3 < lineMax := by decide
@[simp] theorem ml_4 : 4 < lineMax := by decide
@[simp] theorem ml_5 : 5 < lineMax := by decide
@[simp] theorem ml_6 : 6 < lineMax := by decide
@[simp] theorem ml_7 : 7 < lineMax := by decide
@[simp] theorem ml_8 : 8 < lineMax := by decide
@[simp] theorem ml_9 : 9 < lineMax := by decide
@[simp] theorem ml_10 : 10 < lineMax := by decide
@[simp] theorem ml_11 : 11 < lineMax := by decide
@[simp] theorem ml_12 : 12 < lineMax := by decide
@[simp] theorem lm_1 : 1 ≤ lineMax := by decide
@[simp] theorem lm_2 : 2 ≤ lineMax := by decide
@[simp] theorem lm_3 : 3 ≤ lineMax := by decide
@[simp] theorem lm_4 : 4 ≤ lineMax := by decide
@[simp] theorem lm_5 : 5 ≤ lineMax := by decide
@[simp] theorem lm_6 : 6 ≤ lineMax := by decide
@[simp] theorem lm_7 : 7 ≤ lineMax := by decide
@[simp] theorem lm_8 : 8 ≤ lineMax := by decide
@[simp] theorem lm_9 : 9 ≤ lineMax := by decide
@[simp] theorem lm_10 : 10 ≤ lineMax := by decide
@[simp] theorem lm_11 : 11 ≤ lineMax := by decide
@[simp] theorem lm_12 : 12 ≤ lineMax := by decide
mutual
theorem eqD_refl : ∀ (n : Nat) (d : PyData), fine n d = true → eqD d d = true
  | _, .none, _ => rfl
  | _, .bool b, _ => by simp [eqD]
  | _, .int i, _ => by simp [eqD]
  | _, .str x, _ => by simp [eqD]
  | n + 1, .list xs, h => by rw [eqD]; rw [fine] at h; exact eqDs_refl n xs h
  | n + 1, .tuple xs, h => by rw [eqD]; rw [fine] at h; exact eqDs_refl n xs h
  | 0, .list xs, h => by simp [fine] at h
  | 0, .tuple xs, h => by simp [fine] at h
  | n, .dict x, h => by cases n <;> simp [fine] at h
theorem eqDs_refl : ∀ (n : Nat) (ds : List PyData), fines n ds = true → eqDs ds ds = true
  | _, [], _ => rfl
  | n, d :: ds, h => by
    rw [fines, Bool.and_eq_true] at h
    rw [eqDs, eqD_refl n d h.1, eqDs_refl n ds h.2]
    rfl
end
theorem gNe_same (h : fine 60 d = true) : gNe (.z d) (.z d) = .ok (.z (.bool false)) := by simp [gNe, h, eqD_refl 60 d h]
theorem gEq_same (h : fine 60 d = true) : gEq (.z d) (.z d) = .ok (.z (.bool true)) := by simp [gEq, h, eqD_refl 60 d h]
theorem cut_map {α β : Type} (k : α → β) (xs : List α) (lo hi : Option Int) : cut (xs.map k) lo hi = (cut xs lo hi).map k := by
  simp [cut]
theorem cut_len {α : Type} (xs : List α) (lo hi : Option Int) : (cut xs lo hi).length ≤ xs.length := by
  simp only [cut, List.length_take, List.length_drop]
  omega
@[simp] theorem mkT_zl {a : PyData} : mkT [.z a, .l os] = .t [.z a, .l os] := rfl
theorem at_m1 {α : Type} {xs : List α} (h : 0 < xs.length) : at_ xs (-1) = some (xs[xs.length - 1]'(by omega)) := by
  unfold at_
  have e : ((-1 : Int) + (xs.length : Int)).toNat = xs.length - 1 := by omega
  rw [if_neg (by omega), if_pos (by omega), e, List.getElem?_eq_getElem]
/-! statements -/
@[simp] theorem out_ok {α : Type} {a : α} {k : α → Out} : (Res.ok a).out ρ k = k a := (rfl)
@[simp] theorem out_bad {α : Type} {k : α → Out} : (Res.bad : Res α).out ρ k = .bad := (rfl)
@[simp] theorem sPass_eq : sPass ρ = .nx ρ := (rfl)
@[simp] theorem sSeq_eq : sSeq fs gs ρ = (fs ρ).seq gs := (rfl)
@[simp] theorem seq_nx : (Out.nx ρ).seq gs = gs ρ := (rfl)
@[simp] theorem seq_rt : (Out.rt o).seq gs = .rt o := (rfl)
@[simp] theorem seq_bk : (Out.bk ρ).seq gs = .bk ρ := (rfl)
@[simp] theorem seq_ct : (Out.ct ρ).seq gs = .ct ρ := (rfl)
@[simp] theorem seq_err {c : Str} : (Out.err c d ρ).seq gs = .err c d ρ := (rfl)
@[simp] theorem turn_nx {k : ES} : (Out.nx ρ).turn k = k ρ := (rfl)
@[simp] theorem turn_ct {k : ES} : (Out.ct ρ).turn k = k ρ := (rfl)
@[simp] theorem turn_bk {k : ES} : (Out.bk ρ).turn k = .nx ρ := (rfl)
@[simp] theorem turn_rt {k : ES} : (Out.rt o).turn k = .rt o := (rfl)
@[simp] theorem turn_err {c : Str} {k : ES} : (Out.err c d ρ).turn k = .err c d ρ := (rfl)
@[simp] theorem res_nx : (Out.nx ρ).res = .ok (.z .none) := (rfl)
@[simp] theorem res_rt : (Out.rt o).res = .ok o := (rfl)
@[simp] theorem res_err {c : Str} : (Out.err c d ρ).res = .err c d := (rfl)
/-- what a target gives -/
def stored : Option Env → Out
  | some ρ => .nx ρ
  | none => .bad
@[simp] theorem stored_some : stored (some ρ) = .nx ρ := (rfl)
@[simp] theorem sAsg_eq {k : EG} : sAsg f k ρ = (f ρ).out ρ fun o => stored (k o ρ) := by
  unfold sAsg
  cases f ρ with
  | ok o => show (match k o ρ with | some ρ' => Out.nx ρ' | none => .bad) = stored (k o ρ); cases k o ρ <;> rfl
  | _ => rfl
@[simp] theorem sIf_eq : sIf t fs gs ρ = (t ρ).out ρ fun b => if b then fs ρ else gs ρ := (rfl)
@[simp] theorem sRet_eq : sRet f ρ = (f ρ).out ρ fun o => .rt o := (rfl)
@[simp] theorem sRetN_eq : sRetN ρ = .rt (.z .none) := (rfl)
@[simp] theorem sBrk_eq : sBrk ρ = .bk ρ := (rfl)
@[simp] theorem sCnt_eq : sCnt ρ = .ct ρ := (rfl)
@[simp] theorem sDrop_eq : sDrop f ρ = (f ρ).out ρ fun _ => .nx ρ := (rfl)
@[simp] theorem sFrz_eq {n : Nat} : sFrz n fs ρ = fs (frz n ρ) := (rfl)
@[simp] theorem tT_eq {ks : List EG} : tT ks o ρ = (tupO o).bind fun os => tTs ks os ρ := (rfl)
@[simp] theorem tupO_z : tupO (.z (.tuple ds)) = some (ds.map .z) := (rfl)
@[simp] theorem tTs_nil : tTs [] [] ρ = some ρ := (rfl)
@[simp] theorem tTs_cons {k : EG} {ks : List EG} {o : O} {os : List O} : tTs (k :: ks) (o :: os) ρ = (k o ρ).bind fun ρ' => tTs ks os ρ' := (rfl)
@[simp] theorem lent_z : lent (.z d) = .w (.z d) := (rfl)
@[simp] theorem lent_l : lent (.l os) = .r (.l os) := (rfl)
@[simp] theorem lent_s {ns : List Int} : lent (.s ns) = .r (.s ns) := (rfl)
/-- a for over data -/
theorem sFor_ok {fi : EI} {k : EG} (h : fi ρ = .ok (ds.map .z)) : sFor fi k fs ρ = forGo k fs (ds.map .z) ρ := by
  unfold sFor
  rw [h, out_ok, allZ_map]
theorem upTo_map (n : Nat) (lo : Int) : upTo n lo = ((List.range n).map fun (i : Nat) => PyData.int (lo + (i : Int))).map O.z := by
  unfold upTo
  rw [List.map_map]
  rfl
theorem iR1_ok {n : Nat} (h : f ρ = .ok (.z (.int n))) (hn : (n : Int) < 2 ^ 62) : iR1 f ρ = .ok (((List.range n).map fun (i : Nat) => PyData.int (i : Int)).map .z) := by
  unfold iR1
  rw [h, Res.bind_ok]
  show (if far n = true then _ else _) = _
  rw [if_pos (show far n = true from decide_eq_true ⟨by omega, hn⟩), upTo_map, Int.toNat_natCast]
  simp
theorem iR2_ok {a b : Int} (h1 : f1 ρ = .ok (.z (.int a))) (h2 : f2 ρ = .ok (.z (.int b))) (ha : -(2 ^ 62) ≤ a ∧ a < 2 ^ 62) (hb : -(2 ^ 62) ≤ b ∧ b < 2 ^ 62) : iR2 f1 f2 ρ = .ok (((List.range (b - a).toNat).map fun (i : Nat) => PyData.int (a + (i : Int))).map .z) := by
  unfold iR2
  rw [h1, h2, Res.bind_ok, Res.bind_ok]
  show (if (far a && far b) = true then _ else _) = _
  rw [if_pos (by rw [Bool.and_eq_true]; exact ⟨show far a = true from decide_eq_true ha, show far b = true from decide_eq_true hb⟩), upTo_map]
end
/-- where a turn of a loop may end: on with J, or over with R -/
inductive Turn : Out → (Env → Prop) → (Out → Prop) → Prop where
  | nx {ρ : Env} {J : Env → Prop} {R : Out → Prop} (h : J ρ) : Turn (.nx ρ) J R
  | ct {ρ : Env} {J : Env → Prop} {R : Out → Prop} (h : J ρ) : Turn (.ct ρ) J R
  | bk {ρ : Env} {J : Env → Prop} {R : Out → Prop} (h : R (.nx ρ)) : Turn (.bk ρ) J R
  | rt {o : O} {J : Env → Prop} {R : Out → Prop} (h : R (.rt o)) : Turn (.rt o) J R
  | err {c : Str} {d : PyData} {ρ : Env} {J : Env → Prop} {R : Out → Prop} (h : R (.err c d ρ)) : Turn (.err c d ρ) J R
@[simp] theorem Turn_nx {ρ : Env} {J : Env → Prop} {R : Out → Prop} : Turn (.nx ρ) J R ↔ J ρ := ⟨fun h => by cases h; assumption, .nx⟩
@[simp] theorem Turn_ct {ρ : Env} {J : Env → Prop} {R : Out → Prop} : Turn (.ct ρ) J R ↔ J ρ := ⟨fun h => by cases h; assumption, .ct⟩
@[simp] theorem Turn_bk {ρ : Env} {J : Env → Prop} {R : Out → Prop} : Turn (.bk ρ) J R ↔ R (.nx ρ) := ⟨fun h => by cases h; assumption, .bk⟩
@[simp] theorem Turn_rt {o : O} {J : Env → Prop} {R : Out → Prop} : Turn (.rt o) J R ↔ R (.rt o) := ⟨fun h => by cases h; assumption, .rt⟩
@[simp] theorem Turn_err {c : Str} {d : PyData} {ρ : Env} {J : Env → Prop} {R : Out → Prop} : Turn (.err c d ρ) J R ↔ R (.err c d ρ) := ⟨fun h => by cases h; assumption, .err⟩
/-- for over xs, seen through d: I holds of what is done and the slots, R of the end -/
theorem for_ind {α : Type} (d : α → PyData) {k : EG} {body : ES} {R : Out → Prop} (I : List α → Env → Prop) :
    ∀ (xs done : List α) (ρ : Env), I done ρ →
      (∀ done' x rest ρ, done ++ xs = done' ++ x :: rest → I done' ρ → ∃ ρ1, k (.z (d x)) ρ = some ρ1 ∧ Turn (body ρ1) (I (done' ++ [x])) R) →
      (∀ ρ, I (done ++ xs) ρ → R (.nx ρ)) → R (forGo k body ((xs.map d).map .z) ρ)
  | [], done, ρ, h, _, fin => by
    rw [List.map_nil, List.map_nil, forGo]
    exact fin ρ (by rw [List.append_nil]; exact h)
  | x :: xs, done, ρ, h, step, fin => by
    rw [List.map_cons, List.map_cons, forGo]
    obtain ⟨ρ1, e, q⟩ := step done x xs ρ rfl h
    have on : ∀ ρ2, I (done ++ [x]) ρ2 → R (forGo k body ((xs.map d).map .z) ρ2) := fun ρ2 h2 =>
      for_ind d I xs (done ++ [x]) ρ2 h2 (fun d' y r ρ e h => step d' y r ρ (by rw [← e, List.append_assoc]; rfl) h) fun ρ h => fin ρ (by rw [List.append_assoc] at h; exact h)
    rw [e]
    show R ((body ρ1).turn _)
    cases hb : body ρ1 with
    | nx ρ2 => rw [hb] at q; exact on ρ2 (Turn_nx.1 q)
    | ct ρ2 => rw [hb] at q; exact on ρ2 (Turn_ct.1 q)
    | bk ρ2 => rw [hb] at q; exact Turn_bk.1 q
    | rt o => rw [hb] at q; exact Turn_rt.1 q
    | err c d ρ2 => rw [hb] at q; exact Turn_err.1 q
    | bad => rw [hb] at q; cases q
theorem for_map {α : Type} (d : α → PyData) {k : EG} {body : ES} {R : Out → Prop} (I : List α → Env → Prop) (xs : List α) (ρ : Env) (h : I [] ρ)
    (step : ∀ done x rest ρ, xs = done ++ x :: rest → I done ρ → ∃ ρ1, k (.z (d x)) ρ = some ρ1 ∧ Turn (body ρ1) (I (done ++ [x])) R)
    (fin : ∀ ρ, I xs ρ → R (.nx ρ)) : R (forGo k body ((xs.map d).map .z) ρ) :=
  for_ind d I xs [] ρ h (fun d' x r ρ e => step d' x r ρ e) fin
theorem range_part {n : Nat} {done rest : List Nat} {x : Nat} (h : List.range n = done ++ x :: rest) : x = done.length ∧ x < n := by
  have h1 : (List.range n)[done.length]? = some x := by rw [h]; simp
  have h2 : done.length < n := by
    have := congrArg List.length h
    simp at this
    omega
  rw [List.getElem?_range h2] at h1
  simp at h1
  omega
theorem for_range (f : Nat → PyData) {k : EG} {body : ES} {R : Out → Prop} (I : Nat → Env → Prop) (n : Nat) (ρ : Env) (h : I 0 ρ)
    (step : ∀ i ρ, i < n → I i ρ → ∃ ρ1, k (.z (f i)) ρ = some ρ1 ∧ Turn (body ρ1) (I (i + 1)) R)
    (fin : ∀ ρ, I n ρ → R (.nx ρ)) : R (forGo k body (((List.range n).map f).map .z) ρ) := by
  refine for_map f (fun done ρ => I done.length ρ) (List.range n) ρ h ?_ ?_
  · intro done x rest ρ e hi
    obtain ⟨e1, e2⟩ := range_part e
    subst e1
    obtain ⟨ρ1, a, b⟩ := step _ ρ e2 hi
    refine ⟨ρ1, a, ?_⟩
    rw [List.length_append]
    exact b
  · intro ρ hi
    rw [List.length_range] at hi
    exact fin ρ hi
theorem rangeR {ρ : Env} {fi : EI} {k : EG} {body : ES} {G : Res O → Prop} {gs : ES} {f : Nat → PyData} {n : Nat} (I : Nat → Env → Prop) (hi : fi ρ = .ok (((List.range n).map f).map .z)) (h0 : I 0 ρ)
    (step : ∀ i ρ, i < n → I i ρ → ∃ ρ1, k (.z (f i)) ρ = some ρ1 ∧ Turn (body ρ1) (I (i + 1)) (fun o : Out => G (o.seq gs).res))
    (fin : ∀ ρ, I n ρ → G (gs ρ).res) : G ((sFor fi k body ρ).seq gs).res := by
  rw [sFor_ok hi]
  exact (for_range (R := fun o : Out => G (o.seq gs).res) f I n ρ h0 step fin : (fun o : Out => G (o.seq gs).res) _)
theorem rangeE {ρ : Env} {fi : EI} {k : EG} {body : ES} {G : Res O → Prop} {f : Nat → PyData} {n : Nat} (I : Nat → Env → Prop) (hi : fi ρ = .ok (((List.range n).map f).map .z)) (h0 : I 0 ρ)
    (step : ∀ i ρ, i < n → I i ρ → ∃ ρ1, k (.z (f i)) ρ = some ρ1 ∧ Turn (body ρ1) (I (i + 1)) (fun o : Out => G o.res))
    (fin : ∀ ρ, I n ρ → G (.ok (.z .none))) : G (sFor fi k body ρ).res := by
  rw [sFor_ok hi]
  exact (for_range (R := fun o : Out => G o.res) f I n ρ h0 step fin : (fun o : Out => G o.res) _)
theorem rangeT {ρ : Env} {fi : EI} {k : EG} {body : ES} {J : Env → Prop} {R : Out → Prop} {f : Nat → PyData} {n : Nat} (I : Nat → Env → Prop) (hi : fi ρ = .ok (((List.range n).map f).map .z)) (h0 : I 0 ρ)
    (step : ∀ i ρ, i < n → I i ρ → ∃ ρ1, k (.z (f i)) ρ = some ρ1 ∧ Turn (body ρ1) (I (i + 1)) (fun o : Out => Turn o J R))
    (fin : ∀ ρ, I n ρ → J ρ) : Turn (sFor fi k body ρ) J R := by
  rw [sFor_ok hi]
  exact (for_range (R := fun o : Out => Turn o J R) f I n ρ h0 step (fun ρ h => Turn_nx.2 (fin ρ h)) : (fun o : Out => Turn o J R) _)
theorem rangeS {ρ : Env} {fi : EI} {k : EG} {body : ES} {J : Env → Prop} {R : Out → Prop} {gs : ES} {f : Nat → PyData} {n : Nat} (I : Nat → Env → Prop) (hi : fi ρ = .ok (((List.range n).map f).map .z)) (h0 : I 0 ρ)
    (step : ∀ i ρ, i < n → I i ρ → ∃ ρ1, k (.z (f i)) ρ = some ρ1 ∧ Turn (body ρ1) (I (i + 1)) (fun o : Out => Turn (o.seq gs) J R))
    (fin : ∀ ρ, I n ρ → Turn (gs ρ) J R) : Turn ((sFor fi k body ρ).seq gs) J R := by
  rw [sFor_ok hi]
  exact (for_range (R := fun o : Out => Turn (o.seq gs) J R) f I n ρ h0 step fin : (fun o : Out => Turn (o.seq gs) J R) _)
theorem eachR {ρ : Env} {fi : EI} {k : EG} {body : ES} {G : Res O → Prop} {gs : ES} {α : Type} {d : α → PyData} {xs : List α} (I : List α → Env → Prop) (hi : fi ρ = .ok ((xs.map d).map .z)) (h0 : I [] ρ)
    (step : ∀ done x rest ρ, xs = done ++ x :: rest → I done ρ → ∃ ρ1, k (.z (d x)) ρ = some ρ1 ∧ Turn (body ρ1) (I (done ++ [x])) (fun o : Out => G (o.seq gs).res))
    (fin : ∀ ρ, I xs ρ → G (gs ρ).res) : G ((sFor fi k body ρ).seq gs).res := by
  rw [sFor_ok hi]
  exact (for_map (R := fun o : Out => G (o.seq gs).res) d I xs ρ h0 step fin : (fun o : Out => G (o.seq gs).res) _)
theorem eachE {ρ : Env} {fi : EI} {k : EG} {body : ES} {G : Res O → Prop} {α : Type} {d : α → PyData} {xs : List α} (I : List α → Env → Prop) (hi : fi ρ = .ok ((xs.map d).map .z)) (h0 : I [] ρ)
    (step : ∀ done x rest ρ, xs = done ++ x :: rest → I done ρ → ∃ ρ1, k (.z (d x)) ρ = some ρ1 ∧ Turn (body ρ1) (I (done ++ [x])) (fun o : Out => G o.res))
    (fin : ∀ ρ, I xs ρ → G (.ok (.z .none))) : G (sFor fi k body ρ).res := by
  rw [sFor_ok hi]
  exact (for_map (R := fun o : Out => G o.res) d I xs ρ h0 step fin : (fun o : Out => G o.res) _)
theorem eachT {ρ : Env} {fi : EI} {k : EG} {body : ES} {J : Env → Prop} {R : Out → Prop} {α : Type} {d : α → PyData} {xs : List α} (I : List α → Env → Prop) (hi : fi ρ = .ok ((xs.map d).map .z)) (h0 : I [] ρ)
    (step : ∀ done x rest ρ, xs = done ++ x :: rest → I done ρ → ∃ ρ1, k (.z (d x)) ρ = some ρ1 ∧ Turn (body ρ1) (I (done ++ [x])) (fun o : Out => Turn o J R))
    (fin : ∀ ρ, I xs ρ → J ρ) : Turn (sFor fi k body ρ) J R := by
  rw [sFor_ok hi]
  exact (for_map (R := fun o : Out => Turn o J R) d I xs ρ h0 step (fun ρ h => Turn_nx.2 (fin ρ h)) : (fun o : Out => Turn o J R) _)
theorem eachS {ρ : Env} {fi : EI} {k : EG} {body : ES} {J : Env → Prop} {R : Out → Prop} {gs : ES} {α : Type} {d : α → PyData} {xs : List α} (I : List α → Env → Prop) (hi : fi ρ = .ok ((xs.map d).map .z)) (h0 : I [] ρ)
    (step : ∀ done x rest ρ, xs = done ++ x :: rest → I done ρ → ∃ ρ1, k (.z (d x)) ρ = some ρ1 ∧ Turn (body ρ1) (I (done ++ [x])) (fun o : Out => Turn (o.seq gs) J R))
    (fin : ∀ ρ, I xs ρ → Turn (gs ρ) J R) : Turn ((sFor fi k body ρ).seq gs) J R := by
  rw [sFor_ok hi]
  exact (for_map (R := fun o : Out => Turn (o.seq gs) J R) d I xs ρ h0 step fin : (fun o : Out => Turn (o.seq gs) J R) _)
end U
end
/-! E_k01 -/
section
set_option linter.all false
namespace Z
open PySem (PyData Str)
open U
/-- link_index(net, a, b): slots net=0 a=1 b=2 low=3 high=4 k=5 -/
def b_link_index : ES := sSeq (sAsg (eK kMin2 (aCons (eVar 1) (aCons (eVar 2) aNil))) (tN 3))
  (sSeq (sAsg (eK kMax2 (aCons (eVar 1) (aCons (eVar 2) aNil))) (tN 4))
  (sSeq (sFor (iR1 (eK kLen (aCons (e2 gIx (eVar 0) (eC (.int 1))) aNil))) (tN 5)
  (sIf (tB (e2 gEq (eCut (e2 gIx (e2 gIx (eVar 0) (eC (.int 1))) (eVar 5)) pNo (pSo (eC (.int 2)))) (eTup (aCons (eZ (eVar 3)) (aCons (eZ (eVar 4)) aNil)))))
  (sRet (eZ (eVar 5)))
  sPass))
  (sRet (e1 gNeg (eC (.int 1))))))
def ev_link_index : List O → Res O := run 6 b_link_index
/-- link_price(net, a, b): slots net=0 a=1 b=2 index=3 -/
def b_link_price : ES := sSeq (sAsg (eFz (eCall ev_link_index (aCons (eVar 0) (aCons (eVar 1) (aCons (eVar 2) aNil))))) (tN 3))
  (sSeq (sIf (tB (e2 gLt (eVar 3) (eC (.int 0))))
  (sRet (eTup (aCons (eC (.bool false)) (aCons (eC .none) aNil))))
  sPass)
  (sSeq (sIf (tB (e2 gLt (eVar 1) (eVar 2)))
  (sRet (eTup (aCons (eC (.bool true)) (aCons (e2 gIx (e2 gIx (e2 gIx (eVar 0) (eC (.int 1))) (eVar 3)) (eC (.int 2))) aNil))))
  sPass)
  (sRet (eTup (aCons (eC (.bool true)) (aCons (e2 gIx (e2 gIx (e2 gIx (eVar 0) (eC (.int 1))) (eVar 3)) (eC (.int 3))) aNil))))))
def ev_link_price : List O → Res O := run 4 b_link_price
/-- road_sum(net, road): slots net=0 road=1 place=2 total=3 k=4 value=5 -/
def b_road_sum : ES := sSeq (sIf (tB (e2 gEq (eK kLen (aCons (eVar 1) aNil)) (eC (.int 0))))
  (sRet (eC .none))
  sPass)
  (sSeq (sFor (iSeqZ (eVar 1)) (tN 2)
  (sIf (tNot (tB (eCh gLe gLt (eC (.int 0)) (eVar 2) (e2 gIx (eVar 0) (eC (.int 0))))))
  (sRet (eC .none))
  sPass))
  (sSeq (sAsg (eC (.int 0)) (tN 3))
  (sSeq (sFor (iR1 (e2 gSub (eK kLen (aCons (eVar 1) aNil)) (eC (.int 1)))) (tN 4)
  (sSeq (sAsg (e2 gIx (eCall ev_link_price (aCons (eVar 0) (aCons (e2 gIx (eVar 1) (eVar 4)) (aCons (e2 gIx (eVar 1) (e2 gAdd (eVar 4) (eC (.int 1)))) aNil)))) (eC (.int 1))) (tN 5))
  (sSeq (sIf (tB (e2 gIs (eVar 5) (eC .none)))
  (sRet (eC .none))
  sPass)
  (sAug 3 (fun a b => a + b) (eVar 5)))))
  (sRet (eZ (eVar 3))))))
def ev_road_sum : List O → Res O := run 6 b_road_sum
/-- _law_draws(script): slots script=0 draws=1 k=2 rest=3 turn=4 mixed=5 -/
def b__law_draws : ES := sSeq (sAsg (eLst aNil) (tN 1))
  (sSeq (sFor (iR1 (eK kMin2 (aCons (eC (.int 63)) (aCons (eK kLen (aCons (eVar 0) aNil)) aNil)))) (tN 2)
  (sSeq (sAsg (eK kAbs (aCons (e2 gIx (eVar 0) (eVar 2)) aNil)) (tN 3))
  (sIf (tB (e2 gGe (eVar 3) (e2 gPow (eC (.int 10)) (eC (.int 18)))))
  (sFor (iR1 (eC (.int 60))) (tN 4)
  (sIf (tB (e2 gGt (eVar 3) (eC (.int 0))))
  (sSeq (sApp 1 (e2 gMod (eK kInt (aCons (eVar 3) aNil)) (eC (.int 65536))))
  (sAsg (e2 gDiv (eVar 3) (eC (.int 65536))) (tN 3)))
  sPass))
  (sSeq (sAsg (e2 gMod (eK kInt (aCons (e2 gAdd (e2 gMul (eVar 3) (eC (.int 48271))) (e2 gMul (e2 gAdd (eVar 2) (eC (.int 1))) (eC (.int 69621)))) aNil)) (eC (.int 2147483647))) (tN 5))
  (sSeq (sAsg (e2 gMod (eK kInt (aCons (e2 gAdd (e2 gAdd (e2 gMul (eVar 5) (eC (.int 16807))) (e2 gMul (eC (.int 11)) (eVar 2))) (eC (.int 5))) aNil)) (eC (.int 2147483629))) (tN 5))
  (sSeq (sApp 1 (e2 gMod (eK kInt (aCons (eVar 5) aNil)) (eC (.int 65536))))
  (sApp 1 (e2 gMod (eK kInt (aCons (e2 gDiv (eVar 5) (eC (.int 65536))) aNil)) (eC (.int 32768))))))))))
  (sRetMv 1))
def ev__law_draws : List O → Res O := run 6 b__law_draws
/-- _law_at(draws, k, many): slots draws=0 k=1 many=2 -/
def b__law_at : ES := sSeq (sIf (tB (e2 gLt (eVar 1) (eK kLen (aCons (eVar 0) aNil))))
  (sRet (e2 gMod (eK kInt (aCons (e2 gIx (eVar 0) (eVar 1)) aNil)) (eVar 2)))
  sPass)
  (sRet (eC (.int 0)))
def ev__law_at : List O → Res O := run 3 b__law_at
/-- _law_is_integer(actual): slots actual=0 -/
def b__law_is_integer : ES := sRet (eAnd (eIsi .int (eVar 0)) (eNot (eIsi .bool (eVar 0))))
def ev__law_is_integer : List O → Res O := run 1 b__law_is_integer
/-- _law_mix(draws, k, many): slots draws=0 k=1 many=2 value=3 -/
def b__law_mix : ES := sSeq (sAsg (eC (.int 0)) (tN 3))
  (sSeq (sIf (tB (e2 gGt (eK kLen (aCons (eVar 0) aNil)) (eC (.int 0))))
  (sAsg (e2 gIx (eVar 0) (e2 gMod (eK kInt (aCons (eVar 1) aNil)) (eK kLen (aCons (eVar 0) aNil)))) (tN 3))
  sPass)
  (sSeq (sIf (tB (e2 gLt (eVar 1) (eK kLen (aCons (eVar 0) aNil))))
  (sRet (e2 gMod (eK kInt (aCons (eVar 3) aNil)) (eVar 2)))
  sPass)
  (sRet (e2 gMod (eK kInt (aCons (e2 gDiv (eK kInt (aCons (e2 gAdd (e2 gMul (eVar 3) (eC (.int 7919))) (e2 gMul (eVar 1) (eC (.int 104729)))) aNil)) (eC (.int 3))) aNil)) (eVar 2)))))
def ev__law_mix : List O → Res O := run 4 b__law_mix
/-- _law_price(draws, k): slots draws=0 k=1 word=2 -/
def b__law_price : ES := sSeq (sAsg (eFz (eCall ev__law_mix (aCons (eVar 0) (aCons (eVar 1) (aCons (eC (.int 7)) aNil))))) (tN 2))
  (sSeq (sIf (tB (e2 gEq (eVar 2) (eC (.int 0))))
  (sRet (eC .none))
  sPass)
  (sSeq (sIf (tB (e2 gEq (eVar 2) (eC (.int 1))))
  (sRet (e2 gSub (eC (.int 1000000)) (eCall ev__law_mix (aCons (eVar 0) (aCons (e2 gAdd (eVar 1) (eC (.int 1))) (aCons (eC (.int 3)) aNil))))))
  sPass)
  (sRet (e2 gAdd (eC (.int 1)) (eCall ev__law_mix (aCons (eVar 0) (aCons (e2 gAdd (eVar 1) (eC (.int 1))) (aCons (e2 gIx (eLst (aCons (eC (.int 4)) (aCons (eC (.int 30)) (aCons (eC (.int 1000000)) aNil)))) (e2 gMod (eK kInt (aCons (eVar 2) aNil)) (eC (.int 3)))) aNil))))))))
def ev__law_price : List O → Res O := run 3 b__law_price
/-- _law_net(draws, k, most): slots draws=0 k=1 most=2 size=3 dense=4 links=5 a=6 b=7 at=8 -/
def b__law_net : ES := sSeq (sAsg (eFz (e2 gAdd (eC (.int 1)) (eCall ev__law_mix (aCons (eVar 0) (aCons (eVar 1) (aCons (eVar 2) aNil)))))) (tN 3))
  (sSeq (sAsg (eFz (e2 gAdd (eC (.int 1)) (eCall ev__law_mix (aCons (eVar 0) (aCons (e2 gAdd (eVar 1) (eC (.int 1))) (aCons (eC (.int 5)) aNil)))))) (tN 4))
  (sSeq (sAsg (eLst aNil) (tN 5))
  (sSeq (sFor (iR1 (eVar 3)) (tN 6)
  (sFor (iR2 (e2 gAdd (eVar 6) (eC (.int 1))) (eVar 3)) (tN 7)
  (sSeq (sAsg (e2 gAdd (e2 gAdd (eVar 1) (eC (.int 3))) (e2 gMul (eC (.int 2)) (e2 gAdd (e2 gMul (eVar 6) (eVar 3)) (eVar 7)))) (tN 8))
  (sIf (tB (e2 gEq (eCall ev__law_mix (aCons (eVar 0) (aCons (eVar 8) (aCons (e2 gIx (eLst (aCons (eC (.int 2)) (aCons (eC (.int 3)) (aCons (eC (.int 4)) (aCons (eZ (eVar 3)) (aCons (eZ (eVar 3)) aNil)))))) (e2 gSub (eVar 4) (eC (.int 1)))) aNil)))) (eC (.int 0))))
  (sApp 5 (eFz (eTup (aCons (eZ (eVar 6)) (aCons (eZ (eVar 7)) (aCons (eCall ev__law_price (aCons (eVar 0) (aCons (e2 gAdd (eVar 8) (eC (.int 1))) aNil))) (aCons (eCall ev__law_price (aCons (eVar 0) (aCons (e2 gAdd (eVar 8) (eC (.int 2))) aNil))) aNil)))))))
  sPass))))
  (sFrz 5 (sRet (eTup (aCons (eZ (eVar 3)) (aCons (eZ (eVar 5)) aNil))))))))
def ev__law_net : List O → Res O := run 9 b__law_net
/-- _law_walk(draws, k, net, most): slots draws=0 k=1 net=2 most=3 road=4 turn=5 steps=6 a=7 b=8 there=9 back=10 -/
def b__law_walk : ES := sSeq (sAsg (eLst (aCons (eCall ev__law_mix (aCons (eVar 0) (aCons (eVar 1) (aCons (e2 gIx (eVar 2) (eC (.int 0))) aNil)))) aNil)) (tN 4))
  (sSeq (sFor (iR1 (eCall ev__law_mix (aCons (eVar 0) (aCons (e2 gAdd (eVar 1) (eC (.int 1))) (aCons (eVar 3) aNil))))) (tN 5)
  (sSeq (sAsg (eLst aNil) (tN 6))
  (sSeq (sFor (iSeqZ (e2 gIx (eVar 2) (eC (.int 1)))) (tT [tN 7, tN 8, tN 9, tN 10])
  (sSeq (sIf (tAnd (tB (e2 gEq (eVar 7) (e2 gIx (eVar 4) (e1 gNeg (eC (.int 1)))))) (tB (e2 gIsnt (eVar 9) (eC .none))))
  (sApp 6 (eZ (eVar 8)))
  sPass)
  (sIf (tAnd (tB (e2 gEq (eVar 8) (e2 gIx (eVar 4) (e1 gNeg (eC (.int 1)))))) (tB (e2 gIsnt (eVar 10) (eC .none))))
  (sApp 6 (eZ (eVar 7)))
  sPass)))
  (sIf (tB (e2 gGt (eK kLen (aCons (eVar 6) aNil)) (eC (.int 0))))
  (sApp 4 (e2 gIx (eVar 6) (eCall ev__law_mix (aCons (eVar 0) (aCons (e2 gAdd (e2 gAdd (eVar 1) (eC (.int 2))) (eVar 5)) (aCons (eK kLen (aCons (eVar 6) aNil)) aNil))))))
  sPass))))
  (sRetMv 4))
def ev__law_walk : List O → Res O := run 11 b__law_walk
/-- _law_sum(net, road): slots net=0 road=1 total=2 k=3 found=4 a=5 b=6 there=7 back=8 -/
def b__law_sum : ES := sSeq (sIf (tB (e2 gEq (eK kLen (aCons (eVar 1) aNil)) (eC (.int 0))))
  (sRet (eC .none))
  sPass)
  (sSeq (sAsg (eC (.int 0)) (tN 2))
  (sSeq (sFor (iR1 (eK kLen (aCons (eVar 1) aNil))) (tN 3)
  (sSeq (sIf (tNot (tB (eCh gLe gLt (eC (.int 0)) (e2 gIx (eVar 1) (eVar 3)) (e2 gIx (eVar 0) (eC (.int 0))))))
  (sRet (eC .none))
  sPass)
  (sIf (tB (e2 gGt (eVar 3) (eC (.int 0))))
  (sSeq (sAsg (eC .none) (tN 4))
  (sSeq (sFor (iSeqZ (e2 gIx (eVar 0) (eC (.int 1)))) (tT [tN 5, tN 6, tN 7, tN 8])
  (sSeq (sIf (tB (e2 gEq (eTup (aCons (eZ (eVar 5)) (aCons (eZ (eVar 6)) aNil))) (eTup (aCons (e2 gIx (eVar 1) (e2 gSub (eVar 3) (eC (.int 1)))) (aCons (e2 gIx (eVar 1) (eVar 3)) aNil)))))
  (sAsg (eZ (eVar 7)) (tN 4))
  sPass)
  (sIf (tB (e2 gEq (eTup (aCons (eZ (eVar 6)) (aCons (eZ (eVar 5)) aNil))) (eTup (aCons (e2 gIx (eVar 1) (e2 gSub (eVar 3) (eC (.int 1)))) (aCons (e2 gIx (eVar 1) (eVar 3)) aNil)))))
  (sAsg (eZ (eVar 8)) (tN 4))
  sPass)))
  (sSeq (sIf (tB (e2 gIs (eVar 4) (eC .none)))
  (sRet (eC .none))
  sPass)
  (sAsg (e2 gAdd (eVar 2) (eVar 4)) (tN 2)))))
  sPass)))
  (sRet (eZ (eVar 2)))))
def ev__law_sum : List O → Res O := run 9 b__law_sum
/-- law(script): slots script=0 draws=1 wide=2 net=3 kept=4 road=5 place=6 cell=7 roads=8 other=9 told=10 due=11 -/
def b_law : ES := sSeq (sAsg (eFz (eCall ev__law_draws (aCons (eVar 0) aNil))) (tN 1))
  (sSeq (sAsg (eK kInt (aCons (e2 gEq (eCall ev__law_at (aCons (eVar 1) (aCons (eC (.int 2)) (aCons (eC (.int 12)) aNil)))) (eC (.int 7))) aNil)) (tN 2))
  (sSeq (sAsg (eFz (eCall ev__law_net (aCons (eVar 1) (aCons (eC (.int 6)) (aCons (e2 gIx (eLst (aCons (eC (.int 8)) (aCons (eC (.int 40)) aNil))) (eVar 2)) aNil))))) (tN 3))
  (sSeq (sAsg (eFz (eTup (aCons (e2 gIx (eVar 3) (eC (.int 0))) (aCons (eK kList (aCons (e2 gIx (eVar 3) (eC (.int 1))) aNil)) aNil)))) (tN 4))
  (sSeq (sAsg (eFz (eCall ev__law_walk (aCons (eVar 1) (aCons (eC (.int 3300)) (aCons (eVar 3) (aCons (e2 gIx (eLst (aCons (eC (.int 10)) (aCons (eC (.int 61)) aNil))) (eVar 2)) aNil)))))) (tN 5))
  (sSeq (sAsg (eFz (eCall ev__law_at (aCons (eVar 1) (aCons (eC (.int 0)) (aCons (eK kLen (aCons (eVar 5) aNil)) aNil))))) (tN 6))
  (sSeq (sAsg (e2 gSub (eCall ev__law_at (aCons (eVar 1) (aCons (eC (.int 1)) (aCons (e2 gAdd (e2 gIx (eVar 3) (eC (.int 0))) (eC (.int 2))) aNil)))) (eC (.int 1))) (tN 7))
  (sSeq (sAsg (eLst (aCons (eZ (eVar 5)) (aCons (e2 gAdd (e2 gAdd (eCut (eVar 5) pNo (pSo (eVar 6))) (eLst (aCons (eZ (eVar 7)) aNil))) (eCut (eVar 5) (pSo (e2 gAdd (eVar 6) (eC (.int 1)))) pNo)) (aCons (e2 gAdd (eCut (eVar 5) pNo (pSo (eVar 6))) (eCut (eVar 5) (pSo (e2 gAdd (eVar 6) (eC (.int 1)))) pNo)) (aCons (eRev (eVar 5)) (aCons (eLst aNil) aNil)))))) (tN 8))
  (sSeq (sApp 8 (eFz (e2 gAdd (e2 gAdd (eCut (eVar 5) pNo (pSo (eVar 6))) (eLst (aCons (e2 gIx (eVar 5) (eVar 6)) aNil))) (eCut (eVar 5) (pSo (eVar 6)) pNo))))
  (sSeq (sFrz 8 (sFor (iSeqZ (eVar 8)) (tN 9)
  (sSeq (sAsg (eFz (eCall ev_road_sum (aCons (eVar 3) (aCons (eFz (eK kList (aCons (eVar 9) aNil))) aNil)))) (tN 10))
  (sSeq (sAsg (eFz (eCall ev__law_sum (aCons (eVar 4) (aCons (eVar 9) aNil)))) (tN 11))
  (sIf (tOr (tB (e2 gNe (eVar 10) (eVar 11))) (tOr (tAnd (tB (e2 gIsnt (eVar 10) (eC .none))) (tNot (tV (eCall ev__law_is_integer (aCons (eVar 10) aNil))))) (tB (e2 gNe (eVar 3) (eVar 4)))))
  (sRet (eC (.bool false)))
  sPass)))))
  (sRet (e2 gIsnt (eCall ev__law_sum (aCons (eVar 4) (aCons (eVar 5) aNil))) (eC .none))))))))))))
def ev_law : List O → Res O := run 12 b_law
end Z
end
/-! M_k01 -/
section
set_option linter.all false
set_option maxRecDepth 4000
namespace Z
open PySem (PyData Str)
open U
/-! the draws: a list of whole numbers -/
def I (is : List Int) : List PyData := is.map .int
def OI (is : List Int) : List O := is.map fun i => .z (.int i)
theorem OI_eq (is : List Int) : OI is = (I is).map .z := by simp [OI, I]
@[simp] theorem I_len (is : List Int) : (I is).length = is.length := by simp [I]
@[simp] theorem OI_len (is : List Int) : (OI is).length = is.length := by simp [OI]
@[simp] theorem OI_0 : ([] : List O) = OI [] ↔ True := by simp [OI]
@[simp] theorem OI1 (is : List Int) (a : Int) : OI is ++ [.z (.int a)] = OI (is ++ [a]) := by simp [OI]
theorem OI2 (is : List Int) (a b : Int) : OI is ++ [.z (.int a), .z (.int b)] = OI (is ++ [a, b]) := by simp [OI]
@[simp] theorem OI_strip (is : List Int) : (OI is).map strip = I is := by simp [OI, I]
@[simp] theorem OI_emp (is : List Int) : (OI is).isEmpty = is.isEmpty := by cases is <;> rfl
@[simp] theorem I_emp (is : List Int) : (I is).isEmpty = is.isEmpty := by cases is <;> rfl
@[simp] theorem strip_comp {α : Type} (f : α → PyData) : strip ∘ O.z ∘ f = f := by funext x; simp
@[simp high] theorem kList_I (is : List Int) : kList [.z (.list (I is))] = .ok (.l (OI is)) := by rw [kList_l, OI_eq]
abbrev zi (i : Int) : O := .z (.int i)
abbrev zl (is : List Int) : O := .z (.list (I is))
@[simp] theorem at_I (is : List Int) (i : Int) : at_ (I is) i = (at_ is i).map .int := at_map _ _ _
theorem at_in {α : Type} {xs : List α} {i : Int} (h0 : 0 ≤ i) (h1 : i < xs.length) : ∃ x, x ∈ xs ∧ at_ xs i = some x := by
  rw [at_p h0]
  refine ⟨xs[i.toNat]'(by omega), List.getElem_mem _, ?_⟩
  rw [List.getElem?_eq_getElem]
theorem draws_to (ns : List Int) (G : Res O → Prop) (G_ : ∀ is : List Int, G (.ok (.l (OI is)))) : G (ev__law_draws [.s ns]) := by
  unfold ev__law_draws run b__law_draws
  have e : entry 6 [.s ns] = [some (.r (.s ns)), none, none, none, none, none] := rfl
  simp [e]
  have hm : (min 63 ns.length : Nat) ≤ 63 := Nat.min_le_left ..
  refine rangeR (fun k ρ => ∃ is : List Int, is.length ≤ 60 * k ∧ ∃ s2 s3 s4 s5, ρ = [some (.r (.s ns)), some (.w (.l (OI is))), s2, s3, s4, s5])
    (iR1_ok (n := min 63 ns.length) (by simp; split <;> omega) (by omega)) ?_ ?_ ?_
  · exact ⟨[], by simp, _, _, _, _, rfl⟩
  · rintro k ρ hk ⟨is, hl, s2, s3, s4, s5, rfl⟩
    obtain ⟨v, -, hv⟩ := at_in (xs := ns) (i := (k : Int)) (by omega) (by omega)
    refine ⟨_, rfl, ?_⟩
    have nx : ∀ (is : List Int) (x : Int), is.length ≤ 60 * 63 + 60 → is.length + 1 < lineMax := fun is x h => by simp [lineMax]; omega
    simp [hv]
    by_cases hb : (1000000000000000000 : Int) ≤ if v < 0 then -v else v
    · rw [if_pos hb]
      refine rangeT (fun i ρ => ∃ is : List Int, is.length ≤ 60 * k + i ∧ ∃ x s4 s5, ρ = [some (.r (.s ns)), some (.w (.l (OI is))), some (.w (zi k)), some (.w (zi x)), s4, s5])
        (iR1_ok (n := 60) rfl (by decide)) ?_ ?_ ?_
      · exact ⟨is, by omega, _, _, _, rfl⟩
      · rintro i ρ hi ⟨is, hl, x, s4, s5, rfl⟩
        refine ⟨_, rfl, ?_⟩
        have := nx is x (by omega)
        have : is.length < lineMax := by omega
        by_cases hx : 0 < x
        · simp [hx, this]
          refine ⟨is ++ [x % 65536], by simp; omega, ?_⟩
          simp [OI]
        · simp [hx]
          exact ⟨is, by omega, rfl⟩
      · rintro ρ ⟨is, hl, x, s4, s5, rfl⟩
        exact ⟨is, by omega, _, _, _, _, rfl⟩
    · rw [if_neg hb]
      have h1 := nx is 0 (by omega)
      have h2 : is.length < lineMax := by omega
      simp [h1, h2]
      exact ⟨_, by simp; omega, rfl⟩
  · rintro ρ ⟨is, hl, s2, s3, s4, s5, rfl⟩
    simp
    exact G_ is
theorem draws_ok (ns : List Int) : ∃ is : List Int, ev__law_draws [.s ns] = .ok (.l (OI is)) :=
  draws_to ns (fun r => ∃ is : List Int, r = .ok (.l (OI is))) fun is => ⟨is, rfl⟩
/-! draws turned to small numbers -/
theorem ent {n : Nat} {args : List O} : entry n args = args.map (fun o => some (lent o)) ++ List.replicate (n - args.length) none := rfl
theorem law_at_ok (is : List Int) {k many : Int} (hk : 0 ≤ k) (hm : 0 < many) : ∃ r, 0 ≤ r ∧ r < many ∧ ev__law_at [zl is, zi k, zi many] = .ok (zi r) := by
  unfold ev__law_at run b__law_at
  simp [ent]
  by_cases h : k < is.length
  · obtain ⟨v, -, hv⟩ := at_in hk h
    simp [h, I, at_map, hv, hm]
    exact ⟨Int.emod_nonneg _ (by omega), Int.emod_lt_of_pos _ hm⟩
  · simp [h]
    exact hm
theorem mix_ok (is : List Int) (k : Int) {many : Int} (hm : 0 < many) : ∃ r, 0 ≤ r ∧ r < many ∧ ev__law_mix [zl is, zi k, zi many] = .ok (zi r) := by
  unfold ev__law_mix run b__law_mix
  simp [ent]
  have fin : ∀ v : Int, 0 ≤ v % many ∧ v % many < many := fun v => ⟨Int.emod_nonneg _ (by omega), Int.emod_lt_of_pos _ hm⟩
  by_cases h : 0 < is.length
  · obtain ⟨v, -, hv⟩ := at_in (xs := is) (i := k % is.length) (Int.emod_nonneg _ (by omega)) (Int.emod_lt_of_pos _ (by omega))
    have h' : is ≠ [] := by rintro rfl; simp at h
    by_cases h2 : k < is.length
    · simp [h, h', I, at_map, hv, hm, h2]
      exact fin _
    · simp [h, h', I, at_map, hv, hm, h2]
      exact fin _
  · have h' : is = [] := by cases is <;> simp_all
    subst h'
    by_cases h2 : k < 0
    · simp [h2, hm]
    · simp [h2, hm]
      exact fin _
/-- a price, or none -/
def pd : Option Int → PyData
  | some i => .int i
  | none => .none
@[simp] theorem pd_some (i : Int) : pd (some i) = .int i := rfl
@[simp] theorem pd_none : pd none = .none := rfl
@[simp] theorem isNone_pd (p : Option Int) : isNone (.z (pd p)) = p.isNone := by cases p <;> rfl
theorem three (w : Int) : w % 3 = 0 ∨ w % 3 = 1 ∨ w % 3 = 2 := by omega
theorem price_ok (is : List Int) (k : Int) : ∃ p, ev__law_price [zl is, zi k] = .ok (.z (pd p)) := by
  unfold ev__law_price run b__law_price
  obtain ⟨w, w0, w1, ew⟩ := mix_ok is k (many := 7) (by omega)
  simp [ent, ew]
  by_cases h0 : w = 0
  · simp [h0]; exact ⟨none, rfl⟩
  by_cases h1 : w = 1
  · obtain ⟨r, -, -, e⟩ := mix_ok is (k + 1) (many := 3) (by omega)
    simp [h1, e]; exact ⟨some _, rfl⟩
  simp [h0, h1]
  have : ∃ m : Int, 0 < m ∧ gIx (.l [zi 4, zi 30, zi 1000000]) (zi (w % 3)) = .ok (zi m) := by
    rcases three w with h | h | h <;> rw [h]
    · exact ⟨4, by omega, rfl⟩
    · exact ⟨30, by omega, rfl⟩
    · exact ⟨1000000, by omega, rfl⟩
  obtain ⟨m, hm, e⟩ := this
  obtain ⟨r, -, -, e2⟩ := mix_ok is (k + 1) hm
  simp [e, e2]
  exact ⟨some _, rfl⟩
/-! nets of priced links -/
abbrev Lk := Int × Int × Option Int × Option Int
abbrev lkD (l : Lk) : PyData := .tuple [.int l.1, .int l.2.1, pd l.2.2.1, pd l.2.2.2]
def OL (ls : List Lk) : List O := ls.map fun l => .z (lkD l)
@[simp] theorem OL_strip (ls : List Lk) : (OL ls).map strip = ls.map lkD := by simp [OL]
@[simp] theorem OL_len (ls : List Lk) : (OL ls).length = ls.length := by simp [OL]
theorem OL_snoc (ls : List Lk) (l : Lk) : OL (ls ++ [l]) = OL ls ++ [.z (lkD l)] := by simp [OL]
abbrev netO (size : Int) (ls : List Lk) : O := .z (.tuple [.int size, .list (ls.map lkD)])
structure Good (size : Int) (ls : List Lk) : Prop where
  len : ls.length ≤ 1600
  lt : ∀ l ∈ ls, 0 ≤ l.1 ∧ l.1 < l.2.1 ∧ l.2.1 < size
  ord : ls.Pairwise fun l m => l.1 < m.1 ∨ (l.1 = m.1 ∧ l.2.1 < m.2.1)
theorem pw_snoc {α : Type} {R : α → α → Prop} {xs : List α} {x : α} (h : xs.Pairwise R) (g : ∀ y ∈ xs, R y x) : (xs ++ [x]).Pairwise R := by
  rw [List.pairwise_append]
  exact ⟨h, List.pairwise_singleton _ _, fun a ha b hb => by rw [List.mem_singleton] at hb; subst hb; exact g a ha⟩
theorem pick5 (size r : Int) (h0 : 0 ≤ r) (h1 : r < 5) (hs : 0 < size) : ∃ m : Int, 0 < m ∧ gIx (.l [zi 2, zi 3, zi 4, zi size, zi size]) (zi r) = .ok (zi m) := by
  have : r = 0 ∨ r = 1 ∨ r = 2 ∨ r = 3 ∨ r = 4 := by omega
  rcases this with h | h | h | h | h <;> subst h
  · exact ⟨2, by omega, rfl⟩
  · exact ⟨3, by omega, rfl⟩
  · exact ⟨4, by omega, rfl⟩
  · exact ⟨size, hs, rfl⟩
  · exact ⟨size, hs, rfl⟩
def NetI (is : List Int) (k most s d : Int) (a : Nat) (ρ : Env) : Prop := ∃ ls : List Lk, ls.length ≤ 40 * a ∧ (∀ l ∈ ls, 0 ≤ l.1 ∧ l.1 < l.2.1 ∧ l.2.1 < 1 + s) ∧ (ls.Pairwise fun l m => l.1 < m.1 ∨ (l.1 = m.1 ∧ l.2.1 < m.2.1)) ∧ (∀ l ∈ ls, l.1 < a) ∧ ∃ x y z, ρ = [some (.w (zl is)), some (.w (zi k)), some (.w (zi most)), some (.w (zi (1 + s))), some (.w (zi (1 + d))), some (.w (.l (OL ls))), x, y, z]
def NetJ (is : List Int) (k most s d : Int) (a j : Nat) (ρ : Env) : Prop := ∃ ls : List Lk, ls.length ≤ 40 * a + j ∧ (∀ l ∈ ls, 0 ≤ l.1 ∧ l.1 < l.2.1 ∧ l.2.1 < 1 + s) ∧ (ls.Pairwise fun l m => l.1 < m.1 ∨ (l.1 = m.1 ∧ l.2.1 < m.2.1)) ∧ (∀ l ∈ ls, l.1 < a ∨ (l.1 = a ∧ l.2.1 < a + 1 + j)) ∧ ∃ y z, ρ = [some (.w (zl is)), some (.w (zi k)), some (.w (zi most)), some (.w (zi (1 + s))), some (.w (zi (1 + d))), some (.w (.l (OL ls))), some (.w (zi a)), y, z]
theorem net_to (is : List Int) (k : Int) {most : Int} (hm : 1 ≤ most) (hm2 : most ≤ 40) (G : Res O → Prop) (G_ : ∀ size ls, 1 ≤ size → size ≤ most → Good size ls → G (.ok (netO size ls))) : G (ev__law_net [zl is, zi k, zi most]) := by
  unfold ev__law_net run b__law_net
  obtain ⟨s, s0, s1, es⟩ := mix_ok is k (many := most) (by omega)
  obtain ⟨d, d0, d1, ed⟩ := mix_ok is (k + 1) (many := 5) (by omega)
  simp [ent, es, ed]
  have hn : ∃ n : Nat, (n : Int) = 1 + s := ⟨(1 + s).toNat, by omega⟩
  obtain ⟨n, hn⟩ := hn
  refine rangeR (NetI is k most s d) (iR1_ok (n := n) (by simp [hn]) (by omega)) ?_ ?_ ?_
  · exact ⟨[], by simp, by simp, by simp, by simp, _, _, _, rfl⟩
  · rintro a ρ ha ⟨ls, h1, h2, h3, h4, x, y, z, rfl⟩
    refine ⟨_, rfl, ?_⟩
    refine rangeT (NetJ is k most s d a) (iR2_ok (a := (a : Int) + 1) (b := 1 + s) (by simp) (by simp) (by omega) (by omega)) ?_ ?_ ?_
    · exact ⟨ls, by omega, h2, h3, fun l hl => .inl (h4 l hl), _, _, rfl⟩
    · rintro j ρ hj ⟨ls, h1, h2, h3, h4, y, z, rfl⟩
      refine ⟨_, rfl, ?_⟩
      obtain ⟨m, m0, em⟩ := pick5 (1 + s) d d0 d1 (by omega)
      have hl : ls.length < lineMax := by simp [lineMax]; omega
      have e1 : (1 + d - 1 : Int) = d := by omega
      generalize ht : k + 3 + 2 * ((a : Int) * (1 + s) + (a + 1 + j)) = t
      obtain ⟨r, -, -, er⟩ := mix_ok is t m0
      obtain ⟨p, ep⟩ := price_ok is (t + 1)
      obtain ⟨q, eq⟩ := price_ok is (t + 2)
      have e2 : gMul (zi a) (zi (1 + s)) = .ok (zi (a * (1 + s))) := gMul_l (by omega)
      simp [e2, ht, em, er, ep, eq, e1]
      by_cases hr : r = 0
      · simp [hr, hl]
        refine ⟨ls ++ [((a : Int), (a : Int) + 1 + (j : Int), p, q)], by simp; omega, ?_, pw_snoc h3 ?_, ?_, _, _, by rw [OL_snoc]⟩
        · intro l hl
          rw [List.mem_append, List.mem_singleton] at hl
          rcases hl with hl | rfl
          · exact h2 l hl
          · exact ⟨by simp, by simp; omega, by simp; omega⟩
        · intro l hl
          have := h4 l hl
          simp
          omega
        · intro l hl
          rw [List.mem_append, List.mem_singleton] at hl
          rcases hl with hl | rfl
          · have := h4 l hl
            omega
          · simp
            omega
      · simp [hr]
        exact ⟨ls, by omega, h2, h3, fun l hl => by have := h4 l hl; omega, _, _, rfl⟩
    · rintro ρ ⟨ls, h1, h2, h3, h4, y, z, rfl⟩
      exact ⟨ls, by omega, h2, h3, fun l hl => by have := h4 l hl; omega, _, _, _, rfl⟩
  · rintro ρ ⟨ls, h1, h2, h3, h4, x, y, z, rfl⟩
    simp
    exact G_ (1 + s) ls (by omega) (by omega) ⟨by omega, h2, h3⟩
theorem net_ok (is : List Int) (k : Int) {most : Int} (hm : 1 ≤ most) (hm2 : most ≤ 40) : ∃ size ls, 1 ≤ size ∧ size ≤ most ∧ Good size ls ∧ ev__law_net [zl is, zi k, zi most] = .ok (netO size ls) :=
  net_to is k hm hm2 (fun r => ∃ size ls, 1 ≤ size ∧ size ≤ most ∧ Good size ls ∧ r = .ok (netO size ls)) fun size ls a b c => ⟨size, ls, a, b, c, rfl⟩
/-! what a step costs, and a road -/
def hit (x y : Int) (f : Option Int) (l : Lk) : Option Int :=
  if l.2.1 = x ∧ l.1 = y then l.2.2.2 else if l.1 = x ∧ l.2.1 = y then l.2.2.1 else f
def fd (ls : List Lk) (x y : Int) : Option Int := ls.foldl (hit x y) none
theorem fd_snoc (ls : List Lk) (l : Lk) (x y : Int) : fd (ls ++ [l]) x y = hit x y (fd ls x y) l := by simp [fd]
theorem fold_miss {x y : Int} : ∀ (ls : List Lk) (f : Option Int), (∀ l ∈ ls, ¬(l.1 = x ∧ l.2.1 = y) ∧ ¬(l.2.1 = x ∧ l.1 = y)) → ls.foldl (hit x y) f = f
  | [], f, _ => rfl
  | l :: ls, f, h => by
    have := h l List.mem_cons_self
    rw [List.foldl_cons, hit, if_neg this.2, if_neg this.1]
    exact fold_miss ls f fun m hm => h m (List.mem_cons_of_mem _ hm)
theorem fold_hit {x y : Int} {l : Lk} (v : Option Int) : ∀ (ls : List Lk) (f : Option Int), l ∈ ls → (∀ m ∈ ls, m.1 < m.2.1) → (ls.Pairwise fun l m => l.1 < m.1 ∨ (l.1 = m.1 ∧ l.2.1 < m.2.1)) → ((l.1 = x ∧ l.2.1 = y) ∧ v = l.2.2.1 ∨ (l.2.1 = x ∧ l.1 = y) ∧ v = l.2.2.2) → ls.foldl (hit x y) f = v
  | [], _, h, _, _, _ => absurd h (List.not_mem_nil)
  | m :: ls, f, h, g, o, e => by
    rw [List.foldl_cons]
    rw [List.pairwise_cons] at o
    have gm := g m List.mem_cons_self
    rcases List.mem_cons.1 h with rfl | h
    · rw [fold_miss ls _ fun n hn => by have := o.1 n hn; have := g n (List.mem_cons_of_mem _ hn); rcases e with ⟨e, -⟩ | ⟨e, -⟩ <;> constructor <;> intro q <;> omega]
      rcases e with ⟨e, rfl⟩ | ⟨e, rfl⟩
      · rw [hit, if_neg (by omega), if_pos e]
      · rw [hit, if_pos e]
    · exact fold_hit v ls _ h (fun n hn => g n (List.mem_cons_of_mem _ hn)) o.2 e
def NoHit (ls : List Lk) (x y : Int) (i : Nat) : Prop := ∀ j, j < i → ∀ l, ls[j]? = some l → ¬(l.1 = x ∧ l.2.1 = y)
theorem link_index_to {size : Int} {ls : List Lk} (gd : ls.length ≤ 1600) (x y : Int) (G : Res O → Prop)
    (yes : ∀ (i : Nat) l, ls[i]? = some l → l.1 = min x y → l.2.1 = max x y → G (.ok (zi i)))
    (no : (∀ l ∈ ls, ¬(l.1 = min x y ∧ l.2.1 = max x y)) → G (.ok (zi (-1)))) : G (ev_link_index [netO size ls, zi x, zi y]) := by
  unfold ev_link_index run b_link_index
  have e1 : (if y < x then y else x) = min x y := by omega
  have e2 : (if x < y then y else x) = max x y := by omega
  simp [ent, e1, e2]
  refine rangeR (fun i ρ => NoHit ls (min x y) (max x y) i ∧ ∃ s, ρ = [some (.w (netO size ls)), some (.w (zi x)), some (.w (zi y)), some (.w (zi (min x y))), some (.w (zi (max x y))), s])
    (iR1_ok (n := ls.length) (by simp) (by omega)) ?_ ?_ ?_
  · exact ⟨fun j h => absurd h (by omega), _, rfl⟩
  · rintro i ρ hi ⟨h, s, rfl⟩
    refine ⟨_, rfl, ?_⟩
    have ei : ls[i]? = some ls[i] := List.getElem?_eq_getElem hi
    simp [at_n, ei]
    by_cases hc : ls[i].1 = min x y ∧ ls[i].2.1 = max x y
    · simp [hc]
      exact yes i _ ei hc.1 hc.2
    · simp [hc]
      intro j hj l hl
      by_cases hji : j = i
      · subst hji
        rw [ei] at hl
        cases hl
        exact hc
      · exact h j (by omega) l hl
  · rintro ρ ⟨h, s, rfl⟩
    simp
    refine no fun l hl => ?_
    obtain ⟨i, hi, rfl⟩ := List.getElem_of_mem hl
    exact h i hi _ (List.getElem?_eq_getElem hi)
theorem link_index_ok {size : Int} {ls : List Lk} (gd : ls.length ≤ 1600) (x y : Int) :
    (∃ (i : Nat) (l : Lk), ls[i]? = some l ∧ l.1 = min x y ∧ l.2.1 = max x y ∧ ev_link_index [netO size ls, zi x, zi y] = .ok (zi i)) ∨ ((∀ l ∈ ls, ¬(l.1 = min x y ∧ l.2.1 = max x y)) ∧ ev_link_index [netO size ls, zi x, zi y] = .ok (zi (-1))) :=
  link_index_to gd x y (fun r => (∃ (i : Nat) (l : Lk), ls[i]? = some l ∧ l.1 = min x y ∧ l.2.1 = max x y ∧ r = .ok (zi i)) ∨ ((∀ l ∈ ls, ¬(l.1 = min x y ∧ l.2.1 = max x y)) ∧ r = .ok (zi (-1))))
    (fun i l a b c => .inl ⟨i, l, a, b, c, rfl⟩) fun h => .inr ⟨h, rfl⟩
abbrev prO (b : Bool) (p : Option Int) : O := .z (.tuple [.bool b, pd p])
theorem link_price_ok {size : Int} {ls : List Lk} (gd : Good size ls) (x y : Int) : ∃ b, ev_link_price [netO size ls, zi x, zi y] = .ok (prO b (fd ls x y)) := by
  unfold ev_link_price run b_link_price
  rcases link_index_ok (size := size) gd.len x y with ⟨i, l, hl, h1, h2, e⟩ | ⟨h, e⟩
  · have hm : l ∈ ls := List.mem_of_getElem? hl
    have lt := gd.lt l hm
    have hi : ¬ (i : Int) < 0 := by omega
    by_cases hxy : x < y
    · have ef : fd ls x y = l.2.2.1 := fold_hit _ ls none hm (fun m h => (gd.lt m h).2.1) gd.ord (.inl ⟨by omega, rfl⟩)
      simp [ent, e, hxy, hi, at_n, hl, ef]
    · have ef : fd ls x y = l.2.2.2 := fold_hit _ ls none hm (fun m h => (gd.lt m h).2.1) gd.ord (.inr ⟨by omega, rfl⟩)
      simp [ent, e, hxy, hi, at_n, hl, ef]
  · have ef : fd ls x y = none := fold_miss ls none fun l hl => by
      have := h l hl
      have := gd.lt l hl
      constructor <;> intro q <;> omega
    simp [ent, e, ef]
/-- a road's sum -/
def acc (ls : List Lk) (rs : List Int) : Nat → Option Int
  | 0 => some 0
  | k + 1 => match acc ls rs k, fd ls (rs.getD k 0) (rs.getD (k + 1) 0) with
    | some t, some v => some (t + v)
    | _, _ => none
theorem acc_none {ls : List Lk} {rs : List Int} {k : Nat} (h : acc ls rs k = none) : ∀ {m}, k ≤ m → acc ls rs m = none
  | 0, hm => by have : k = 0 := by omega
                subst this; exact h
  | m + 1, hm => by
    by_cases e : k = m + 1
    · subst e; exact h
    · rw [acc, acc_none h (show k ≤ m by omega)]
def inn (size : Int) (rs : List Int) : Prop := ∀ x ∈ rs, 0 ≤ x ∧ x < size
open Classical in
noncomputable def S (size : Int) (ls : List Lk) (rs : List Int) : Option Int := if rs ≠ [] ∧ inn size rs then acc ls rs (rs.length - 1) else none
theorem at_D {rs : List Int} {k : Nat} (h : k < rs.length) : at_ rs (k : Int) = some (rs.getD k 0) := by
  rw [at_n, List.getElem?_eq_getElem h]
  simp [h]
theorem road_sum_to {size : Int} {ls : List Lk} (gd : Good size ls) (rs : List Int) (hr : rs.length ≤ 1000) (G : Res O → Prop) (G_ : G (.ok (.z (pd (S size ls rs))))) : G (ev_road_sum [netO size ls, zl rs]) := by
  unfold ev_road_sum run b_road_sum
  simp [ent]
  by_cases h0 : rs = []
  · subst h0
    simp [S] at G_
    simp
    exact G_
  simp [h0]
  refine eachR (d := .int) (xs := rs) (fun done ρ => inn size done ∧ ∃ s, ρ = [some (.w (netO size ls)), some (.w (zl rs)), s, none, none, none]) (by simp [I]) ?_ ?_ ?_
  · exact ⟨fun x h => absurd h (List.not_mem_nil), _, rfl⟩
  · rintro done x rest ρ e ⟨h, s, rfl⟩
    refine ⟨_, rfl, ?_⟩
    simp
    by_cases hx : x < 0 ∨ size ≤ x
    · have : S size ls rs = none := by
        unfold S
        rw [if_neg]
        intro q
        have := q.2 x (by rw [e]; simp)
        omega
      rw [this] at G_
      simp [hx]
      exact G_
    · simp [hx]
      intro z hz
      rw [List.mem_append, List.mem_singleton] at hz
      rcases hz with hz | rfl
      · exact h z hz
      · omega
  · rintro ρ ⟨hin, s, rfl⟩
    have eS : S size ls rs = acc ls rs (rs.length - 1) := by unfold S; rw [if_pos ⟨h0, hin⟩]
    have hl : 0 < rs.length := List.length_pos_iff.2 h0
    simp
    refine rangeR (fun k ρ => ∃ t, acc ls rs k = some t ∧ ∃ s2 s4 s5, ρ = [some (.w (netO size ls)), some (.w (zl rs)), s2, some (.w (zi t)), s4, s5]) (iR1_ok (n := rs.length - 1) (by simp; omega) (by omega)) ?_ ?_ ?_
    · exact ⟨0, rfl, _, _, _, rfl⟩
    · rintro k ρ hk ⟨t, ht, s2, s4, s5, rfl⟩
      refine ⟨_, rfl, ?_⟩
      obtain ⟨b, eb⟩ := link_price_ok gd (rs.getD k 0) (rs.getD (k + 1) 0)
      have a1 : at_ rs (k : Int) = some (rs.getD k 0) := at_D (by omega)
      have a2 : at_ rs ((k : Int) + 1) = some (rs.getD (k + 1) 0) := by rw [← at_D (by omega)]; rfl
      generalize hu' : rs.getD k 0 = u at a1 eb
      generalize hv' : rs.getD (k + 1) 0 = v at a2 eb
      simp [I, at_map, a1, a2, eb]
      cases hv : fd ls u v with
      | none =>
        rw [eS, acc_none (k := k + 1) (by rw [acc, ht, hu', hv', hv]) (by omega)] at G_
        simp
        exact G_
      | some w =>
        simp
        rw [acc, ht, hu', hv', hv]
    · rintro ρ ⟨t, ht, s2, s4, s5, rfl⟩
      rw [eS, ht] at G_
      simp
      exact G_
theorem gd_inn {size : Int} {rs : List Int} (h : inn size rs) {k : Nat} (hk : k < rs.length) : 0 ≤ rs.getD k 0 ∧ rs.getD k 0 < size := by
  have : rs.getD k 0 ∈ rs := by simp [hk]
  exact h _ this
def Upto (size : Int) (rs : List Int) (k : Nat) : Prop := ∀ i, i < k → 0 ≤ rs.getD i 0 ∧ rs.getD i 0 < size
theorem law_sum_to {size : Int} {ls : List Lk} (gd : Good size ls) (rs : List Int) (hr : rs.length ≤ 1000) (G : Res O → Prop) (G_ : G (.ok (.z (pd (S size ls rs))))) : G (ev__law_sum [netO size ls, zl rs]) := by
  unfold ev__law_sum run b__law_sum
  simp [ent]
  by_cases h0 : rs = []
  · subst h0
    simp [S] at G_
    simp
    exact G_
  simp [h0]
  have hl : 0 < rs.length := List.length_pos_iff.2 h0
  refine rangeR (fun k ρ => Upto size rs k ∧ ∃ t, acc ls rs (k - 1) = some t ∧ ∃ s3 s4 s5 s6 s7 s8, ρ = [some (.w (netO size ls)), some (.w (zl rs)), some (.w (zi t)), s3, s4, s5, s6, s7, s8]) (iR1_ok (n := rs.length) (by simp [I]) (by omega)) ?_ ?_ ?_
  · exact ⟨fun i h => absurd h (by omega), 0, rfl, _, _, _, _, _, _, rfl⟩
  · rintro k ρ hk ⟨hin, t, ht, s3, s4, s5, s6, s7, s8, rfl⟩
    refine ⟨_, rfl, ?_⟩
    have a1 : at_ rs (k : Int) = some (rs.getD k 0) := at_D (by omega)
    generalize hu' : rs.getD k 0 = u at a1
    simp [I, at_map, a1]
    by_cases hx : u < 0 ∨ size ≤ u
    · have : S size ls rs = none := by
        unfold S
        rw [if_neg]
        intro q
        have := gd_inn q.2 hk
        omega
      rw [this] at G_
      simp [hx]
      exact G_
    · simp [hx]
      have hin2 : Upto size rs (k + 1) := fun i hi => by
        by_cases e : i = k
        · subst e; rw [hu']; omega
        · exact hin i (by omega)
      by_cases hk0 : 0 < k
      · simp [hk0]
        have a2 : at_ rs ((k : Int) - 1) = some (rs.getD (k - 1) 0) := by
          rw [← at_D (by omega)]
          congr 1
          omega
        generalize hv' : rs.getD (k - 1) 0 = v at a2
        have ea : acc ls rs k = match acc ls rs (k - 1), fd ls v u with
            | some t, some v => some (t + v)
            | _, _ => none := by
          obtain ⟨m, rfl⟩ : ∃ m, k = m + 1 := ⟨k - 1, by omega⟩
          rw [acc, hu']
          simp at hv'
          simp [hv']
        refine eachS (d := lkD) (xs := ls) (fun done ρ => ∃ s5 s6 s7 s8, ρ = [some (.w (netO size ls)), some (.w (zl rs)), some (.w (zi t)), some (.w (zi k)), some (.w (.z (pd (fd done v u)))), s5, s6, s7, s8]) (by simp) ?_ ?_ ?_
        · exact ⟨_, _, _, _, rfl⟩
        · rintro done x rest ρ e ⟨s5, s6, s7, s8, rfl⟩
          refine ⟨_, rfl, ?_⟩
          rw [fd_snoc]
          simp [I, at_map, a1, a2]
          by_cases hb : x.2.1 = v ∧ x.1 = u
          · rw [hit, if_pos hb]
            by_cases ha : x.1 = v ∧ x.2.1 = u
            · simp [ha, a1, a2, at_map]
              rw [if_pos (by omega)]
              simp
            · rw [if_neg ha]
              simp [hb, a1, a2, at_map]
          · rw [hit, if_neg hb]
            by_cases ha : x.1 = v ∧ x.2.1 = u
            · rw [if_pos ha, if_pos ha]
              simp [a1, a2, at_map]
              rw [if_neg hb]
              simp
            · rw [if_neg ha, if_neg ha]
              simp [a1, a2, at_map]
              rw [if_neg hb]
              simp
        · rintro ρ ⟨s5, s6, s7, s8, rfl⟩
          rw [ht] at ea
          simp
          cases hv : fd ls v u with
          | none =>
            simp [hv] at ea
            rw [show S size ls rs = none by unfold S; rw [acc_none (k := k) ea (by omega)]; simp] at G_
            simp
            exact G_
          | some w =>
            simp [hv] at ea
            simp
            exact ⟨hin2, ea⟩
      · have : k = 0 := by omega
        subst this
        simp
        exact ⟨hin2, ht⟩
  · rintro ρ ⟨hin, t, ht, s3, s4, s5, s6, s7, s8, rfl⟩
    have eS : S size ls rs = acc ls rs (rs.length - 1) := by
      unfold S
      rw [if_pos ⟨h0, fun x hx => by
        obtain ⟨i, hi, rfl⟩ := List.getElem_of_mem hx
        have := hin i hi
        simp [hi] at this
        exact this⟩]
    rw [eS, ht] at G_
    simp
    exact G_
/-! lists of whole numbers -/
@[simp high] theorem gCutI (rs : List Int) (lo hi : Option Int) : gCut (.z (.list (I rs))) lo hi = .ok (.l (OI (cut rs lo hi))) := by
  rw [gCut_l, OI_eq, I, I, cut_map]
theorem lz_OI (xs : List Int) : lz (.l (OI xs)) = some (I xs) := by rw [OI_eq, lz_l]
@[simp] theorem gAddII (xs ys : List Int) (h : xs.length + ys.length ≤ lineMax) : gAdd (.l (OI xs)) (.l (OI ys)) = .ok (.l (OI (xs ++ ys))) := by
  simp only [gAdd]
  rw [lz_OI, lz_OI]
  simp [h, I, OI, Function.comp_def]
@[simp] theorem gAddI1 (xs : List Int) (y : Int) (h : xs.length + 1 ≤ lineMax) : gAdd (.l (OI xs)) (.l [zi y]) = .ok (.l (OI (xs ++ [y]))) := gAddII xs [y] h
@[simp high] theorem gRevI (xs : List Int) : gRev (.z (.list (I xs))) = .ok (.l (OI xs.reverse)) := by
  rw [gRev_l, OI_eq]; simp [I]
theorem stripI (xs : List Int) : strip (.l (OI xs)) = .list (I xs) := by simp [I, OI]
@[simp high] theorem gIx_OI (xs : List Int) (i : Int) : gIx (.l (OI xs)) (zi i) = item ((at_ xs i).map .int) := by
  rw [OI_eq, gIx_ol, at_I]
/-! a walk is a road -/
theorem acc_app (ls : List Lk) (rs : List Int) (x : Int) : ∀ {k}, k < rs.length → acc ls (rs ++ [x]) k = acc ls rs k
  | 0, _ => rfl
  | k + 1, h => by
    have e : ∀ i, i < rs.length → (rs ++ [x]).getD i 0 = rs.getD i 0 := fun i hi => by simp [List.getElem?_append_left hi]
    rw [acc, acc, acc_app ls rs x (by omega), e k (by omega), e (k + 1) h]
structure Walk (size : Int) (ls : List Lk) (rs : List Int) : Prop where
  pos : 0 < rs.length
  inn : inn size rs
  acc : (acc ls rs (rs.length - 1)).isSome = true
theorem Walk.snoc {size : Int} {ls : List Lk} {rs : List Int} {x : Int} (h : Walk size ls rs) (hx : 0 ≤ x ∧ x < size) (hf : (fd ls (rs.getD (rs.length - 1) 0) x).isSome = true) : Walk size ls (rs ++ [x]) where
  pos := by simp
  inn := fun y hy => by
    rw [List.mem_append, List.mem_singleton] at hy
    rcases hy with hy | rfl
    · exact h.inn y hy
    · exact hx
  acc := by
    have hp := h.pos
    have e : (rs ++ [x]).length - 1 = rs.length - 1 + 1 := by simp; omega
    rw [e, Z.acc, acc_app ls rs x (by omega)]
    have e1 : (rs ++ [x]).getD (rs.length - 1) 0 = rs.getD (rs.length - 1) 0 := by simp [List.getElem?_append_left (show rs.length - 1 < rs.length by omega)]
    have e2 : (rs ++ [x]).getD (rs.length - 1 + 1) 0 = x := by
      rw [show rs.length - 1 + 1 = rs.length by omega]
      simp
    rw [e1, e2]
    have := h.acc
    revert this hf
    cases Z.acc ls rs (rs.length - 1) <;> cases fd ls (rs.getD (rs.length - 1) 0) x <;> simp
def Steps (size : Int) (ls : List Lk) (u : Int) (st : List Int) : Prop := ∀ x ∈ st, (0 ≤ x ∧ x < size) ∧ (fd ls u x).isSome = true
theorem Steps.snoc {size : Int} {ls : List Lk} {u : Int} {st : List Int} {x : Int} (h : Steps size ls u st) (hx : 0 ≤ x ∧ x < size) (hf : (fd ls u x).isSome = true) : Steps size ls u (st ++ [x]) := fun y hy => by
  rw [List.mem_append, List.mem_singleton] at hy
  rcases hy with hy | rfl
  · exact h y hy
  · exact ⟨hx, hf⟩
theorem walk_to {size : Int} {ls : List Lk} (gd : Good size ls) (hs : 1 ≤ size) (is : List Int) (k : Int) {most : Int} (hm : 1 ≤ most) (hm2 : most ≤ 61) (G : Res O → Prop)
    (G_ : ∀ rs, rs.length ≤ 62 → Walk size ls rs → G (.ok (.l (OI rs)))) : G (ev__law_walk [zl is, zi k, netO size ls, zi most]) := by
  unfold ev__law_walk run b__law_walk
  obtain ⟨r0, r00, r01, e0⟩ := mix_ok is k (many := size) (by omega)
  obtain ⟨r1, r10, r11, e1⟩ := mix_ok is (k + 1) (many := most) (by omega)
  simp [ent, e0, e1]
  refine rangeR (fun n ρ => ∃ rs, rs.length ≤ n + 1 ∧ Walk size ls rs ∧ ∃ s5 s6 s7 s8 s9 s10, ρ = [some (.w (zl is)), some (.w (zi k)), some (.w (netO size ls)), some (.w (zi most)), some (.w (.l (OI rs))), s5, s6, s7, s8, s9, s10])
    (iR1_ok (n := r1.toNat) (by simp [e1]; omega) (by omega)) ?_ ?_ ?_
  · refine ⟨[r0], by simp, ⟨by simp, fun x hx => ?_, rfl⟩, _, _, _, _, _, _, rfl⟩
    rw [List.mem_singleton] at hx
    subst hx
    exact ⟨r00, r01⟩
  · rintro n ρ hn ⟨rs, hl, wk, s5, s6, s7, s8, s9, s10, rfl⟩
    refine ⟨_, rfl, ?_⟩
    have hlast : at_ rs (-1) = some (rs.getD (rs.length - 1) 0) := by
      have := wk.pos
      rw [at_m1 wk.pos, List.getD_eq_getElem?_getD, List.getElem?_eq_getElem (by omega)]
      rfl
    generalize hu : rs.getD (rs.length - 1) 0 = u at hlast
    simp
    refine eachS (d := lkD) (xs := ls) (fun done ρ => ∃ st, st.length ≤ 2 * done.length ∧ Steps size ls u st ∧ ∃ s7 s8 s9 s10, ρ = [some (.w (zl is)), some (.w (zi k)), some (.w (netO size ls)), some (.w (zi most)), some (.w (.l (OI rs))), some (.w (zi n)), some (.w (.l (OI st))), s7, s8, s9, s10]) (by simp) ?_ ?_ ?_
    · exact ⟨[], by simp, fun x h => absurd h (List.not_mem_nil), _, _, _, _, rfl⟩
    · rintro done x rest ρ e ⟨st, hst, ok, s7, s8, s9, s10, rfl⟩
      refine ⟨_, rfl, ?_⟩
      have hx : x ∈ ls := by rw [e]; simp
      have lt := gd.lt x hx
      have len : done.length ≤ 1600 := by
        have := gd.len
        rw [e, List.length_append] at this
        omega
      have c1 : st.length < lineMax := by simp [lineMax]; omega
      have c2 : st.length + 1 < lineMax := by simp [lineMax]; omega
      have f1 : x.1 = u → fd ls u x.2.1 = x.2.2.1 := fun h => fold_hit _ ls none hx (fun m h => (gd.lt m h).2.1) gd.ord (.inl ⟨⟨h, rfl⟩, rfl⟩)
      have f2 : x.2.1 = u → fd ls u x.1 = x.2.2.2 := fun h => fold_hit _ ls none hx (fun m h => (gd.lt m h).2.1) gd.ord (.inr ⟨⟨h, rfl⟩, rfl⟩)
      simp [gIx_OI, hlast]
      by_cases ha : x.1 = u ∧ x.2.2.1.isSome = true
      · have hb : ¬ x.2.1 = u := by omega
        simp [ha, c1, gIx_OI, hlast, hb, OI1]
        exact ⟨_, by simp; omega, ok.snoc (x := x.2.1) (by omega) (by rw [f1 ha.1]; exact ha.2), rfl⟩
      · rw [if_neg ha]
        by_cases hb : x.2.1 = u ∧ x.2.2.2.isSome = true
        · simp [hb, c1, gIx_OI, hlast, OI1]
          exact ⟨_, by simp; omega, ok.snoc (x := x.1) (by omega) (by rw [f2 hb.1]; exact hb.2), rfl⟩
        · simp [gIx_OI, hlast]
          rw [if_neg hb]
          simp
          exact ⟨_, by omega, ok, rfl⟩
    · rintro ρ ⟨st, hst, ok, s7, s8, s9, s10, rfl⟩
      simp
      by_cases h0 : 0 < st.length
      · obtain ⟨r, r0, r1, er⟩ := mix_ok is (k + 2 + n) (many := st.length) (by omega)
        obtain ⟨v, hv, av⟩ := at_in r0 r1
        have c : rs.length < lineMax := by simp [lineMax]; omega
        simp [h0, er, gIx_OI, av, c, OI1]
        exact ⟨_, by simp; omega, wk.snoc (ok v hv).1 (by rw [hu]; exact (ok v hv).2), rfl⟩
      · simp [h0]
        exact ⟨_, by omega, wk, rfl⟩
  · rintro ρ ⟨rs, hl, wk, s5, s6, s7, s8, s9, s10, rfl⟩
    simp
    exact G_ rs (by omega) wk
/-! the law -/
theorem fine_lk {n : Nat} (l : Lk) : fine (n + 1) (lkD l) = true := by
  refine fine_t fun d hd => ?_
  simp at hd
  rcases hd with rfl | rfl | rfl | rfl
  · simp
  · simp
  · cases l.2.2.1 <;> simp
  · cases l.2.2.2 <;> simp
theorem fine_net (size : Int) (ls : List Lk) : fine 60 (.tuple [.int size, .list (ls.map lkD)]) = true := by
  refine fine_t fun d hd => ?_
  simp at hd
  rcases hd with rfl | rfl
  · simp
  · refine fine_l fun d hd => ?_
    obtain ⟨l, -, rfl⟩ := List.mem_map.1 hd
    exact fine_lk l
theorem fine_pd {n : Nat} (p : Option Int) : fine n (pd p) = true := by cases p <;> simp
theorem isint_ok (i : Int) : ev__law_is_integer [zi i] = .ok (.z (.bool true)) := by
  unfold ev__law_is_integer run b__law_is_integer
  simp [ent, isTy]
theorem law_to (ns : List Int) (G : Res O → Prop) (G_ : G (.ok (.z (.bool true)))) : G (ev_law [.s ns]) := by
  unfold ev_law run b_law
  obtain ⟨is, e0⟩ := draws_ok ns
  obtain ⟨w, -, -, ew⟩ := law_at_ok is (k := 2) (many := 12) (by omega) (by omega)
  have hw : ∃ m1 m2 : Int, (m1 = 8 ∨ m1 = 40) ∧ (m2 = 10 ∨ m2 = 61) ∧ gIx (.l [zi 8, zi 40]) (zi (if w = 7 then 1 else 0)) = .ok (zi m1) ∧ gIx (.l [zi 10, zi 61]) (zi (if w = 7 then 1 else 0)) = .ok (zi m2) := by
    by_cases h : w = 7
    · exact ⟨40, 61, .inr rfl, .inr rfl, by simp [h]; rfl, by simp [h]; rfl⟩
    · exact ⟨8, 10, .inl rfl, .inl rfl, by simp [h]; rfl, by simp [h]; rfl⟩
  obtain ⟨m1, m2, hm1, hm2, g1, g2⟩ := hw
  obtain ⟨size, ls, s1, s2, gd, en⟩ := net_ok is 6 (most := m1) (by omega) (by omega)
  have walk : ∃ rs, rs.length ≤ 62 ∧ Walk size ls rs ∧ ev__law_walk [zl is, zi 3300, netO size ls, zi m2] = .ok (.l (OI rs)) :=
    walk_to gd s1 is 3300 (most := m2) (by omega) (by omega) (fun r => ∃ rs, rs.length ≤ 62 ∧ Walk size ls rs ∧ r = .ok (.l (OI rs))) fun rs a b => ⟨rs, a, b, rfl⟩
  obtain ⟨rs, hrs, wk, er⟩ := walk
  have hp := wk.pos
  obtain ⟨pl, p0, p1, ep⟩ := law_at_ok is (k := 0) (many := rs.length) (by omega) (by omega)
  obtain ⟨ce, c0, c1, ec⟩ := law_at_ok is (k := 1) (many := size + 2) (by omega) (by omega)
  obtain ⟨v, -, av⟩ := at_in p0 p1
  simp [ent, e0, ew, g1, en, er, g2, ep, ec]
  have l1 := cut_len rs none (some pl)
  have l2 := cut_len rs (some (pl + 1)) none
  have l3 := cut_len rs (some pl) none
  generalize hx1 : cut rs none (some pl) = x1 at *
  generalize cut rs (some (pl + 1)) none = x2 at *
  generalize hx3 : cut rs (some pl) none = x3 at *
  have q1 : x1.length + 1 ≤ lineMax := by simp [lineMax]; omega
  have q2 : x1.length + 1 + x2.length ≤ lineMax := by simp [lineMax]; omega
  have q3 : x1.length + x2.length ≤ lineMax := by simp [lineMax]; omega
  have q4 : x1.length + 1 + x3.length ≤ lineMax := by simp [lineMax]; omega
  simp [q1, q2, q3, q4, av, hx1, hx3]
  have same : ∀ ys : List Int, ys.length ≤ 1000 → ev_road_sum [netO size ls, zl ys] = .ok (.z (pd (S size ls ys))) ∧ ev__law_sum [netO size ls, zl ys] = .ok (.z (pd (S size ls ys))) := fun ys h =>
    ⟨road_sum_to gd ys h (fun r => r = _) rfl, law_sum_to gd ys h (fun r => r = _) rfl⟩
  have fn := gNe_same (fine_net size ls)
  refine eachR (d := fun ys => .list (I ys)) (xs := [rs, x1 ++ (ce - 1) :: x2, x1 ++ x2, rs.reverse, [], x1 ++ v :: x3]) (fun done ρ => ∃ s9 s10 s11, ρ = [some (.r (.s ns)), some (.w (zl is)), some (.w (zi (if w = 7 then 1 else 0))), some (.w (netO size ls)), some (.w (netO size ls)), some (.w (zl rs)), some (.w (zi pl)), some (.w (zi (ce - 1))),
    some (.w (.z (.list [.list (I rs), .list (I (x1 ++ (ce - 1) :: x2)), .list (I (x1 ++ x2)), .list (I rs.reverse), .list (I []), .list (I (x1 ++ v :: x3))]))), s9, s10, s11]) ?_ ?_ ?_ ?_
  · simp
    simp [I]
  · exact ⟨_, _, _, rfl⟩
  · rintro done ys rest ρ e ⟨s9, s10, s11, rfl⟩
    refine ⟨_, rfl, ?_⟩
    have hy : ys.length ≤ 1000 := by
      have : ys ∈ [rs, x1 ++ (ce - 1) :: x2, x1 ++ x2, rs.reverse, [], x1 ++ v :: x3] := by rw [e]; simp
      simp at this
      rcases this with rfl | rfl | rfl | rfl | rfl | rfl <;> simp <;> omega
    have sm := same ys hy
    have fp := gNe_same (fine_pd (n := 60) (S size ls ys))
    simp [sm.1, sm.2, fn, fp]
    cases S size ls ys with
    | none => simp
    | some t => simp [isint_ok]
  · rintro ρ ⟨s9, s10, s11, rfl⟩
    have sm := same rs (by omega)
    have hS : (S size ls rs).isSome = true := by
      unfold S
      rw [if_pos ⟨List.length_pos_iff.1 hp, wk.inn⟩]
      exact wk.acc
    simp [sm.2]
    rw [hS]
    exact G_
theorem law_true : ∀ ns : List Int, ns.length ≤ 63 → ev_law [.s ns] = .ok (.z (.bool true)) := fun ns _ => law_to ns (fun r => r = .ok (.z (.bool true))) rfl
end Z
end
/-! W_k01 -/
section
set_option Elab.async false
set_option linter.all false
set_option maxRecDepth 100000
set_option maxHeartbeats 4000000
namespace Z
open PySem L2 U
def topS (i : Nat) : Stmt := PySem.Challenge.pw_overpasses_k01_sums_of_roads.main.body.getD i (.Pass ⟨0, 0, 0, 0⟩)
abbrev s_link_index : Stmt := topS 1
theorem sc_link_index : FnScope ["net", "a", "b", "low", "high", "k"] ["net", "a", "b"] (defScope s_link_index) := ⟨rfl, rfl, rfl, by decide +kernel, rfl, by decide +kernel, by decide +kernel⟩
section
variable {P : Program} {w : World} {K : PySem.W.Frag} {mg : Str → Option Value} {base : Heap}
theorem ok_link_index (B : Blt mg) (D : Df K mg "link_index" s_link_index ["net", "a", "b"])  : Cal P w K mg base "link_index" 1 3 ev_link_index := by
  refine calU (N := ["net", "a", "b", "low", "high", "k"]) (ps := ["net", "a", "b"]) (k := 0) (fs := b_link_index) D sc_link_index fun f cdv A outer s H E hr => ?_
  have hu := hu65 hr
  have tk := takes_of (X := cxOf (L2.CX P w) P w K mg base ["net", "a", "b", "low", "high", "k"] "link_index" (defScope s_link_index) f cdv A outer s H E) (E := E) rfl rfl rfl rfl
  have hp := passes_of (X := cxOf (L2.CX P w) P w K mg base ["net", "a", "b", "low", "high", "k"] "link_index" (defScope s_link_index) f cdv A outer s H E) rfl
  have nd := (sc_link_index).nd
  unfold b_link_index
  exact pss_cons' (asg (min2_ B rfl (ac (nm 1) (ac (nm 2) pa_nil'))) (tn 3 nd))
      (pss_cons' (asg (max2_ B rfl (ac (nm 1) (ac (nm 2) pa_nil'))) (tn 4 nd))
      (pss_cons' (for_ hp rfl (r1_ B ((len_ B (ac ((ix_ (nm 0) ((pu_int).br)).br) pa_nil')).br)) (tn 5 nd)
      (pss_one' (ps_if' (teq_ hu ((pu_cut ((ix_ ((ix_ (nm 0) ((pu_int).br)).br) (nm 5)).br) po_no (po_so ((pu_int).br))).br) ((pu_tup (ac (pu_z (nm 3)) (ac (pu_z (nm 4)) pa_nil'))).br))
      (pss_one' (ps_ret' (pu_z (nm 5))))
      pss_nil')))
      (pss_one' (ps_ret' (pu_neg ((pu_int).br))))))
end
abbrev s_link_price : Stmt := topS 2
theorem sc_link_price : FnScope ["net", "a", "b", "index"] ["net", "a", "b"] (defScope s_link_price) := ⟨rfl, rfl, rfl, by decide +kernel, rfl, by decide +kernel, by decide +kernel⟩
section
variable {P : Program} {w : World} {K : PySem.W.Frag} {mg : Str → Option Value} {base : Heap}
theorem ok_link_price (B : Blt mg) (D : Df K mg "link_price" s_link_price ["net", "a", "b"]) (c_link_index : Cal P w K mg base "link_index" 1 3 ev_link_index) : Cal P w K mg base "link_price" 2 3 ev_link_price := by
  refine calU (N := ["net", "a", "b", "index"]) (ps := ["net", "a", "b"]) (k := 1) (fs := b_link_price) D sc_link_price fun f cdv A outer s H E hr => ?_
  have hu := hu65 hr
  have tk := takes_of (X := cxOf (L2.CX P w) P w K mg base ["net", "a", "b", "index"] "link_price" (defScope s_link_price) f cdv A outer s H E) (E := E) rfl rfl rfl rfl
  have hp := passes_of (X := cxOf (L2.CX P w) P w K mg base ["net", "a", "b", "index"] "link_price" (defScope s_link_price) f cdv A outer s H E) rfl
  have nd := (sc_link_price).nd
  unfold b_link_price
  exact pss_cons' (asg (pu_fz (call_ c_link_index hr tk (ac (nm 0) (ac (nm 1) (ac (nm 2) pa_nil'))))) (tn 3 nd))
      (pss_cons' (ps_if' (tlt_ hu (nm 3) ((pu_int).br))
      (pss_one' (ps_ret' (pu_tup (ac pu_bl (ac pu_non pa_nil')))))
      pss_nil')
      (pss_cons' (ps_if' (tlt_ hu (nm 1) (nm 2))
      (pss_one' (ps_ret' (pu_tup (ac pu_bl (ac (ix_ ((ix_ ((ix_ (nm 0) ((pu_int).br)).br) (nm 3)).br) ((pu_int).br)) pa_nil')))))
      pss_nil')
      (pss_one' (ps_ret' (pu_tup (ac pu_bl (ac (ix_ ((ix_ ((ix_ (nm 0) ((pu_int).br)).br) (nm 3)).br) ((pu_int).br)) pa_nil')))))))
end
abbrev s_road_sum : Stmt := topS 3
theorem sc_road_sum : FnScope ["net", "road", "place", "total", "k", "value"] ["net", "road"] (defScope s_road_sum) := ⟨rfl, rfl, rfl, by decide +kernel, rfl, by decide +kernel, by decide +kernel⟩
section
variable {P : Program} {w : World} {K : PySem.W.Frag} {mg : Str → Option Value} {base : Heap}
theorem ok_road_sum (B : Blt mg) (D : Df K mg "road_sum" s_road_sum ["net", "road"]) (c_link_price : Cal P w K mg base "link_price" 2 3 ev_link_price) : Cal P w K mg base "road_sum" 3 2 ev_road_sum := by
  refine calU (N := ["net", "road", "place", "total", "k", "value"]) (ps := ["net", "road"]) (k := 2) (fs := b_road_sum) D sc_road_sum fun f cdv A outer s H E hr => ?_
  have hu := hu65 hr
  have tk := takes_of (X := cxOf (L2.CX P w) P w K mg base ["net", "road", "place", "total", "k", "value"] "road_sum" (defScope s_road_sum) f cdv A outer s H E) (E := E) rfl rfl rfl rfl
  have hp := passes_of (X := cxOf (L2.CX P w) P w K mg base ["net", "road", "place", "total", "k", "value"] "road_sum" (defScope s_road_sum) f cdv A outer s H E) rfl
  have nd := (sc_road_sum).nd
  unfold b_road_sum
  exact pss_cons' (ps_if' (teq_ hu ((len_ B (ac (nm 1) pa_nil')).br) ((pu_int).br))
      (pss_one' (ps_ret' pu_non))
      pss_nil')
      (pss_cons' (for_ hp rfl (pi_seqZ (nm 1)) (tn 2 nd)
      (pss_one' (ps_if' (pt_not' (tch_le_lt hu ((pu_int).br) (nm 2) ((ix_ (nm 0) ((pu_int).br)).br)))
      (pss_one' (ps_ret' pu_non))
      pss_nil')))
      (pss_cons' (asg pu_int (tn 3 nd))
      (pss_cons' (for_ hp rfl (r1_ B ((sub_ ((len_ B (ac (nm 1) pa_nil')).br) ((pu_int).br)).br)) (tn 4 nd)
      (pss_cons' (asg (ix_ ((call_ c_link_price hr tk (ac (nm 0) (ac ((ix_ (nm 1) (nm 4)).br) (ac ((ix_ (nm 1) ((add_ (nm 4) ((pu_int).br)).br)).br) pa_nil')))).br) ((pu_int).br)) (tn 5 nd))
      (pss_cons' (ps_if' (tis_ (nm 5) ((pu_non).br))
      (pss_one' (ps_ret' pu_non))
      pss_nil')
      (pss_one' (aug_add 3 nd (nm 5))))))
      (pss_one' (ps_ret' (pu_z (nm 3)))))))
end
abbrev s__law_draws : Stmt := topS 5
theorem sc__law_draws : FnScope ["script", "draws", "k", "rest", "turn", "mixed"] ["script"] (defScope s__law_draws) := ⟨rfl, rfl, rfl, by decide +kernel, rfl, by decide +kernel, by decide +kernel⟩
section
variable {P : Program} {w : World} {K : PySem.W.Frag} {mg : Str → Option Value} {base : Heap}
theorem ok__law_draws (B : Blt mg) (D : Df K mg "_law_draws" s__law_draws ["script"])  : Cal P w K mg base "_law_draws" 1 1 ev__law_draws := by
  refine calU (N := ["script", "draws", "k", "rest", "turn", "mixed"]) (ps := ["script"]) (k := 0) (fs := b__law_draws) D sc__law_draws fun f cdv A outer s H E hr => ?_
  have hu := hu65 hr
  have tk := takes_of (X := cxOf (L2.CX P w) P w K mg base ["script", "draws", "k", "rest", "turn", "mixed"] "_law_draws" (defScope s__law_draws) f cdv A outer s H E) (E := E) rfl rfl rfl rfl
  have hp := passes_of (X := cxOf (L2.CX P w) P w K mg base ["script", "draws", "k", "rest", "turn", "mixed"] "_law_draws" (defScope s__law_draws) f cdv A outer s H E) rfl
  have nd := (sc__law_draws).nd
  unfold b__law_draws
  exact pss_cons' (asg (pu_lst pa_nil') (tn 1 nd))
      (pss_cons' (for_ hp rfl (r1_ B ((min2_ B rfl (ac ((pu_int).br) (ac ((len_ B (ac (nm 0) pa_nil')).br) pa_nil'))).br)) (tn 2 nd)
      (pss_cons' (asg (abs_ B (ac ((ix_ (nm 0) (nm 2)).br) pa_nil')) (tn 3 nd))
      (pss_one' (ps_if' (tge_ (nm 3) ((pow_ ((pu_int).br) ((pu_int).br)).br))
      (pss_one' (for_ hp rfl (r1_ B ((pu_int).br)) (tn 4 nd)
      (pss_one' (ps_if' (tgt_ (nm 3) ((pu_int).br))
      (pss_cons' (app 1 (mod_ ((int_ B (ac (nm 3) pa_nil')).br) ((pu_int).br)))
      (pss_one' (asg (div_ (nm 3) ((pu_int).br)) (tn 3 nd))))
      pss_nil'))))
      (pss_cons' (asg (mod_ ((int_ B (ac ((add_ ((mul_ (nm 3) ((pu_int).br)).br) ((mul_ ((add_ (nm 2) ((pu_int).br)).br) ((pu_int).br)).br)).br) pa_nil')).br) ((pu_int).br)) (tn 5 nd))
      (pss_cons' (asg (mod_ ((int_ B (ac ((add_ ((add_ ((mul_ (nm 5) ((pu_int).br)).br) ((mul_ ((pu_int).br) (nm 2)).br)).br) ((pu_int).br)).br) pa_nil')).br) ((pu_int).br)) (tn 5 nd))
      (pss_cons' (app 1 (mod_ ((int_ B (ac (nm 5) pa_nil')).br) ((pu_int).br)))
      (pss_one' (app 1 (mod_ ((int_ B (ac ((div_ (nm 5) ((pu_int).br)).br) pa_nil')).br) ((pu_int).br)))))))))))
      (pss_one' (mv 1)))
end
abbrev s__law_at : Stmt := topS 6
theorem sc__law_at : FnScope ["draws", "k", "many"] ["draws", "k", "many"] (defScope s__law_at) := ⟨rfl, rfl, rfl, by decide +kernel, rfl, by decide +kernel, by decide +kernel⟩
section
variable {P : Program} {w : World} {K : PySem.W.Frag} {mg : Str → Option Value} {base : Heap}
theorem ok__law_at (B : Blt mg) (D : Df K mg "_law_at" s__law_at ["draws", "k", "many"])  : Cal P w K mg base "_law_at" 1 3 ev__law_at := by
  refine calU (N := ["draws", "k", "many"]) (ps := ["draws", "k", "many"]) (k := 0) (fs := b__law_at) D sc__law_at fun f cdv A outer s H E hr => ?_
  have hu := hu65 hr
  have tk := takes_of (X := cxOf (L2.CX P w) P w K mg base ["draws", "k", "many"] "_law_at" (defScope s__law_at) f cdv A outer s H E) (E := E) rfl rfl rfl rfl
  have hp := passes_of (X := cxOf (L2.CX P w) P w K mg base ["draws", "k", "many"] "_law_at" (defScope s__law_at) f cdv A outer s H E) rfl
  have nd := (sc__law_at).nd
  unfold b__law_at
  exact pss_cons' (ps_if' (tlt_ hu (nm 1) ((len_ B (ac (nm 0) pa_nil')).br))
      (pss_one' (ps_ret' (mod_ ((int_ B (ac ((ix_ (nm 0) (nm 1)).br) pa_nil')).br) (nm 2))))
      pss_nil')
      (pss_one' (ps_ret' pu_int))
end
abbrev s__law_is_integer : Stmt := topS 7
theorem sc__law_is_integer : FnScope ["actual"] ["actual"] (defScope s__law_is_integer) := ⟨rfl, rfl, rfl, by decide +kernel, rfl, by decide +kernel, by decide +kernel⟩
section
variable {P : Program} {w : World} {K : PySem.W.Frag} {mg : Str → Option Value} {base : Heap}
theorem ok__law_is_integer (B : Blt mg) (D : Df K mg "_law_is_integer" s__law_is_integer ["actual"])  : Cal P w K mg base "_law_is_integer" 1 1 ev__law_is_integer := by
  refine calU (N := ["actual"]) (ps := ["actual"]) (k := 0) (fs := b__law_is_integer) D sc__law_is_integer fun f cdv A outer s H E hr => ?_
  have hu := hu65 hr
  have tk := takes_of (X := cxOf (L2.CX P w) P w K mg base ["actual"] "_law_is_integer" (defScope s__law_is_integer) f cdv A outer s H E) (E := E) rfl rfl rfl rfl
  have hp := passes_of (X := cxOf (L2.CX P w) P w K mg base ["actual"] "_law_is_integer" (defScope s__law_is_integer) f cdv A outer s H E) rfl
  have nd := (sc__law_is_integer).nd
  unfold b__law_is_integer
  exact pss_one' (ps_ret' (pu_and (isi_int B (nm 0)) (pu_one (pu_not (isi_bool B (nm 0))))))
end
abbrev s__law_mix : Stmt := topS 8
theorem sc__law_mix : FnScope ["draws", "k", "many", "value"] ["draws", "k", "many"] (defScope s__law_mix) := ⟨rfl, rfl, rfl, by decide +kernel, rfl, by decide +kernel, by decide +kernel⟩
section
variable {P : Program} {w : World} {K : PySem.W.Frag} {mg : Str → Option Value} {base : Heap}
theorem ok__law_mix (B : Blt mg) (D : Df K mg "_law_mix" s__law_mix ["draws", "k", "many"])  : Cal P w K mg base "_law_mix" 1 3 ev__law_mix := by
  refine calU (N := ["draws", "k", "many", "value"]) (ps := ["draws", "k", "many"]) (k := 0) (fs := b__law_mix) D sc__law_mix fun f cdv A outer s H E hr => ?_
  have hu := hu65 hr
  have tk := takes_of (X := cxOf (L2.CX P w) P w K mg base ["draws", "k", "many", "value"] "_law_mix" (defScope s__law_mix) f cdv A outer s H E) (E := E) rfl rfl rfl rfl
  have hp := passes_of (X := cxOf (L2.CX P w) P w K mg base ["draws", "k", "many", "value"] "_law_mix" (defScope s__law_mix) f cdv A outer s H E) rfl
  have nd := (sc__law_mix).nd
  unfold b__law_mix
  exact pss_cons' (asg pu_int (tn 3 nd))
      (pss_cons' (ps_if' (tgt_ ((len_ B (ac (nm 0) pa_nil')).br) ((pu_int).br))
      (pss_one' (asg (ix_ (nm 0) ((mod_ ((int_ B (ac (nm 1) pa_nil')).br) ((len_ B (ac (nm 0) pa_nil')).br)).br)) (tn 3 nd)))
      pss_nil')
      (pss_cons' (ps_if' (tlt_ hu (nm 1) ((len_ B (ac (nm 0) pa_nil')).br))
      (pss_one' (ps_ret' (mod_ ((int_ B (ac (nm 3) pa_nil')).br) (nm 2))))
      pss_nil')
      (pss_one' (ps_ret' (mod_ ((int_ B (ac ((div_ ((int_ B (ac ((add_ ((mul_ (nm 3) ((pu_int).br)).br) ((mul_ (nm 1) ((pu_int).br)).br)).br) pa_nil')).br) ((pu_int).br)).br) pa_nil')).br) (nm 2))))))
end
abbrev s__law_price : Stmt := topS 9
theorem sc__law_price : FnScope ["draws", "k", "word"] ["draws", "k"] (defScope s__law_price) := ⟨rfl, rfl, rfl, by decide +kernel, rfl, by decide +kernel, by decide +kernel⟩
section
variable {P : Program} {w : World} {K : PySem.W.Frag} {mg : Str → Option Value} {base : Heap}
theorem ok__law_price (B : Blt mg) (D : Df K mg "_law_price" s__law_price ["draws", "k"]) (c__law_mix : Cal P w K mg base "_law_mix" 1 3 ev__law_mix) : Cal P w K mg base "_law_price" 2 2 ev__law_price := by
  refine calU (N := ["draws", "k", "word"]) (ps := ["draws", "k"]) (k := 1) (fs := b__law_price) D sc__law_price fun f cdv A outer s H E hr => ?_
  have hu := hu65 hr
  have tk := takes_of (X := cxOf (L2.CX P w) P w K mg base ["draws", "k", "word"] "_law_price" (defScope s__law_price) f cdv A outer s H E) (E := E) rfl rfl rfl rfl
  have hp := passes_of (X := cxOf (L2.CX P w) P w K mg base ["draws", "k", "word"] "_law_price" (defScope s__law_price) f cdv A outer s H E) rfl
  have nd := (sc__law_price).nd
  unfold b__law_price
  exact pss_cons' (asg (pu_fz (call_ c__law_mix hr tk (ac (nm 0) (ac (nm 1) (ac ((pu_int).br) pa_nil'))))) (tn 2 nd))
      (pss_cons' (ps_if' (teq_ hu (nm 2) ((pu_int).br))
      (pss_one' (ps_ret' pu_non))
      pss_nil')
      (pss_cons' (ps_if' (teq_ hu (nm 2) ((pu_int).br))
      (pss_one' (ps_ret' (sub_ ((pu_int).br) ((call_ c__law_mix hr tk (ac (nm 0) (ac ((add_ (nm 1) ((pu_int).br)).br) (ac ((pu_int).br) pa_nil')))).br))))
      pss_nil')
      (pss_one' (ps_ret' (add_ ((pu_int).br) ((call_ c__law_mix hr tk (ac (nm 0) (ac ((add_ (nm 1) ((pu_int).br)).br) (ac ((ix_ ((pu_lst (ac pu_int (ac pu_int (ac pu_int pa_nil')))).br) ((mod_ ((int_ B (ac (nm 2) pa_nil')).br) ((pu_int).br)).br)).br) pa_nil')))).br))))))
end
abbrev s__law_net : Stmt := topS 10
theorem sc__law_net : FnScope ["draws", "k", "most", "size", "dense", "links", "a", "b", "at"] ["draws", "k", "most"] (defScope s__law_net) := ⟨rfl, rfl, rfl, by decide +kernel, rfl, by decide +kernel, by decide +kernel⟩
section
variable {P : Program} {w : World} {K : PySem.W.Frag} {mg : Str → Option Value} {base : Heap}
theorem ok__law_net (B : Blt mg) (D : Df K mg "_law_net" s__law_net ["draws", "k", "most"]) (c__law_mix : Cal P w K mg base "_law_mix" 1 3 ev__law_mix) (c__law_price : Cal P w K mg base "_law_price" 2 2 ev__law_price) : Cal P w K mg base "_law_net" 3 3 ev__law_net := by
  refine calU (N := ["draws", "k", "most", "size", "dense", "links", "a", "b", "at"]) (ps := ["draws", "k", "most"]) (k := 2) (fs := b__law_net) D sc__law_net fun f cdv A outer s H E hr => ?_
  have hu := hu65 hr
  have tk := takes_of (X := cxOf (L2.CX P w) P w K mg base ["draws", "k", "most", "size", "dense", "links", "a", "b", "at"] "_law_net" (defScope s__law_net) f cdv A outer s H E) (E := E) rfl rfl rfl rfl
  have hp := passes_of (X := cxOf (L2.CX P w) P w K mg base ["draws", "k", "most", "size", "dense", "links", "a", "b", "at"] "_law_net" (defScope s__law_net) f cdv A outer s H E) rfl
  have nd := (sc__law_net).nd
  unfold b__law_net
  exact pss_cons' (asg (pu_fz (add_ ((pu_int).br) ((call_ c__law_mix hr tk (ac (nm 0) (ac (nm 1) (ac (nm 2) pa_nil')))).br))) (tn 3 nd))
      (pss_cons' (asg (pu_fz (add_ ((pu_int).br) ((call_ c__law_mix hr tk (ac (nm 0) (ac ((add_ (nm 1) ((pu_int).br)).br) (ac ((pu_int).br) pa_nil')))).br))) (tn 4 nd))
      (pss_cons' (asg (pu_lst pa_nil') (tn 5 nd))
      (pss_cons' (for_ hp rfl (r1_ B (nm 3)) (tn 6 nd)
      (pss_one' (for_ hp rfl (r2_ B ((add_ (nm 6) ((pu_int).br)).br) (nm 3)) (tn 7 nd)
      (pss_cons' (asg (add_ ((add_ (nm 1) ((pu_int).br)).br) ((mul_ ((pu_int).br) ((add_ ((mul_ (nm 6) (nm 3)).br) (nm 7)).br)).br)) (tn 8 nd))
      (pss_one' (ps_if' (teq_ hu ((call_ c__law_mix hr tk (ac (nm 0) (ac (nm 8) (ac ((ix_ ((pu_lst (ac pu_int (ac pu_int (ac pu_int (ac (pu_z (nm 3)) (ac (pu_z (nm 3)) pa_nil')))))).br) ((sub_ (nm 4) ((pu_int).br)).br)).br) pa_nil')))).br) ((pu_int).br))
      (pss_one' (app 5 (pu_fz (pu_tup (ac (pu_z (nm 6)) (ac (pu_z (nm 7)) (ac (call_ c__law_price hr tk (ac (nm 0) (ac ((add_ (nm 8) ((pu_int).br)).br) pa_nil'))) (ac (call_ c__law_price hr tk (ac (nm 0) (ac ((add_ (nm 8) ((pu_int).br)).br) pa_nil'))) pa_nil'))))))))
      pss_nil'))))))
      (pss_one' (ps_frz (i := 5) (ps_ret' (pu_tup (ac (pu_z (nm 3)) (ac (pu_z (nm 5)) pa_nil')))))))))
end
abbrev s__law_walk : Stmt := topS 11
theorem sc__law_walk : FnScope ["draws", "k", "net", "most", "road", "turn", "steps", "a", "b", "there", "back"] ["draws", "k", "net", "most"] (defScope s__law_walk) := ⟨rfl, rfl, rfl, by decide +kernel, rfl, by decide +kernel, by decide +kernel⟩
section
variable {P : Program} {w : World} {K : PySem.W.Frag} {mg : Str → Option Value} {base : Heap}
theorem ok__law_walk (B : Blt mg) (D : Df K mg "_law_walk" s__law_walk ["draws", "k", "net", "most"]) (c__law_mix : Cal P w K mg base "_law_mix" 1 3 ev__law_mix) : Cal P w K mg base "_law_walk" 2 4 ev__law_walk := by
  refine calU (N := ["draws", "k", "net", "most", "road", "turn", "steps", "a", "b", "there", "back"]) (ps := ["draws", "k", "net", "most"]) (k := 1) (fs := b__law_walk) D sc__law_walk fun f cdv A outer s H E hr => ?_
  have hu := hu65 hr
  have tk := takes_of (X := cxOf (L2.CX P w) P w K mg base ["draws", "k", "net", "most", "road", "turn", "steps", "a", "b", "there", "back"] "_law_walk" (defScope s__law_walk) f cdv A outer s H E) (E := E) rfl rfl rfl rfl
  have hp := passes_of (X := cxOf (L2.CX P w) P w K mg base ["draws", "k", "net", "most", "road", "turn", "steps", "a", "b", "there", "back"] "_law_walk" (defScope s__law_walk) f cdv A outer s H E) rfl
  have nd := (sc__law_walk).nd
  unfold b__law_walk
  exact pss_cons' (asg (pu_lst (ac (call_ c__law_mix hr tk (ac (nm 0) (ac (nm 1) (ac ((ix_ (nm 2) ((pu_int).br)).br) pa_nil')))) pa_nil')) (tn 4 nd))
      (pss_cons' (for_ hp rfl (r1_ B ((call_ c__law_mix hr tk (ac (nm 0) (ac ((add_ (nm 1) ((pu_int).br)).br) (ac (nm 3) pa_nil')))).br)) (tn 5 nd)
      (pss_cons' (asg (pu_lst pa_nil') (tn 6 nd))
      (pss_cons' (for_ hp rfl (pi_seqZ (ix_ (nm 2) ((pu_int).br))) (tt rfl (gc (tn 7 nd) (gc (tn 8 nd) (gc (tn 9 nd) (gc (tn 10 nd) pgs_nil')))))
      (pss_cons' (ps_if' (pt_w (pw_and' (teq_ hu (nm 7) ((ix_ (nm 4) ((pu_neg ((pu_int).br)).br)).br)) (pw_and1' (tisnt_ (nm 9) ((pu_non).br)))))
      (pss_one' (app 6 (pu_z (nm 8))))
      pss_nil')
      (pss_one' (ps_if' (pt_w (pw_and' (teq_ hu (nm 8) ((ix_ (nm 4) ((pu_neg ((pu_int).br)).br)).br)) (pw_and1' (tisnt_ (nm 10) ((pu_non).br)))))
      (pss_one' (app 6 (pu_z (nm 7))))
      pss_nil'))))
      (pss_one' (ps_if' (tgt_ ((len_ B (ac (nm 6) pa_nil')).br) ((pu_int).br))
      (pss_one' (app 4 (ix_ (nm 6) ((call_ c__law_mix hr tk (ac (nm 0) (ac ((add_ ((add_ (nm 1) ((pu_int).br)).br) (nm 5)).br) (ac ((len_ B (ac (nm 6) pa_nil')).br) pa_nil')))).br))))
      pss_nil')))))
      (pss_one' (mv 4)))
end
abbrev s__law_sum : Stmt := topS 12
theorem sc__law_sum : FnScope ["net", "road", "total", "k", "found", "a", "b", "there", "back"] ["net", "road"] (defScope s__law_sum) := ⟨rfl, rfl, rfl, by decide +kernel, rfl, by decide +kernel, by decide +kernel⟩
section
variable {P : Program} {w : World} {K : PySem.W.Frag} {mg : Str → Option Value} {base : Heap}
theorem ok__law_sum (B : Blt mg) (D : Df K mg "_law_sum" s__law_sum ["net", "road"])  : Cal P w K mg base "_law_sum" 1 2 ev__law_sum := by
  refine calU (N := ["net", "road", "total", "k", "found", "a", "b", "there", "back"]) (ps := ["net", "road"]) (k := 0) (fs := b__law_sum) D sc__law_sum fun f cdv A outer s H E hr => ?_
  have hu := hu65 hr
  have tk := takes_of (X := cxOf (L2.CX P w) P w K mg base ["net", "road", "total", "k", "found", "a", "b", "there", "back"] "_law_sum" (defScope s__law_sum) f cdv A outer s H E) (E := E) rfl rfl rfl rfl
  have hp := passes_of (X := cxOf (L2.CX P w) P w K mg base ["net", "road", "total", "k", "found", "a", "b", "there", "back"] "_law_sum" (defScope s__law_sum) f cdv A outer s H E) rfl
  have nd := (sc__law_sum).nd
  unfold b__law_sum
  exact pss_cons' (ps_if' (teq_ hu ((len_ B (ac (nm 1) pa_nil')).br) ((pu_int).br))
      (pss_one' (ps_ret' pu_non))
      pss_nil')
      (pss_cons' (asg pu_int (tn 2 nd))
      (pss_cons' (for_ hp rfl (r1_ B ((len_ B (ac (nm 1) pa_nil')).br)) (tn 3 nd)
      (pss_cons' (ps_if' (pt_not' (tch_le_lt hu ((pu_int).br) ((ix_ (nm 1) (nm 3)).br) ((ix_ (nm 0) ((pu_int).br)).br)))
      (pss_one' (ps_ret' pu_non))
      pss_nil')
      (pss_one' (ps_if' (tgt_ (nm 3) ((pu_int).br))
      (pss_cons' (asg pu_non (tn 4 nd))
      (pss_cons' (for_ hp rfl (pi_seqZ (ix_ (nm 0) ((pu_int).br))) (tt rfl (gc (tn 5 nd) (gc (tn 6 nd) (gc (tn 7 nd) (gc (tn 8 nd) pgs_nil')))))
      (pss_cons' (ps_if' (teq_ hu ((pu_tup (ac (pu_z (nm 5)) (ac (pu_z (nm 6)) pa_nil'))).br) ((pu_tup (ac (ix_ (nm 1) ((sub_ (nm 3) ((pu_int).br)).br)) (ac (ix_ (nm 1) (nm 3)) pa_nil'))).br))
      (pss_one' (asg (pu_z (nm 7)) (tn 4 nd)))
      pss_nil')
      (pss_one' (ps_if' (teq_ hu ((pu_tup (ac (pu_z (nm 6)) (ac (pu_z (nm 5)) pa_nil'))).br) ((pu_tup (ac (ix_ (nm 1) ((sub_ (nm 3) ((pu_int).br)).br)) (ac (ix_ (nm 1) (nm 3)) pa_nil'))).br))
      (pss_one' (asg (pu_z (nm 8)) (tn 4 nd)))
      pss_nil'))))
      (pss_cons' (ps_if' (tis_ (nm 4) ((pu_non).br))
      (pss_one' (ps_ret' pu_non))
      pss_nil')
      (pss_one' (asg (add_ (nm 2) (nm 4)) (tn 2 nd))))))
      pss_nil'))))
      (pss_one' (ps_ret' (pu_z (nm 2))))))
end
abbrev s_law : Stmt := topS 13
theorem sc_law : FnScope ["script", "draws", "wide", "net", "kept", "road", "place", "cell", "roads", "other", "told", "due"] ["script"] (defScope s_law) := ⟨rfl, rfl, rfl, by decide +kernel, rfl, by decide +kernel, by decide +kernel⟩
section
variable {P : Program} {w : World} {K : PySem.W.Frag} {mg : Str → Option Value} {base : Heap}
end
section
variable {P : Program} {w : World} {K : PySem.W.Frag} {mg : Str → Option Value} {base : Heap}
theorem fn_law {f : Addr} {fd : FuncData} (F : Fun K "law" "law" s_law f fd) (B : Blt mg) (c__law_draws : Cal P w K mg base "_law_draws" 1 1 ev__law_draws) (c__law_at : Cal P w K mg base "_law_at" 1 3 ev__law_at) (c__law_net : Cal P w K mg base "_law_net" 3 3 ev__law_net) (c__law_walk : Cal P w K mg base "_law_walk" 2 4 ev__law_walk) (c_road_sum : Cal P w K mg base "road_sum" 3 2 ev_road_sum) (c__law_sum : Cal P w K mg base "_law_sum" 1 2 ev__law_sum) (c__law_is_integer : Cal P w K mg base "_law_is_integer" 1 1 ev__law_is_integer) : FnOk P w K mg base (L2.CX P w) 4 f fd ["script"] (spU K mg 1 ev_law) := by
  refine fnU (N := ["script", "draws", "wide", "net", "kept", "road", "place", "cell", "roads", "other", "told", "due"]) (ps := ["script"]) (k := 3) (fs := b_law) F sc_law fun cdv A outer s H E hr => ?_
  have hu := hu65 hr
  have tk := takes_of (X := cxOf (L2.CX P w) P w K mg base ["script", "draws", "wide", "net", "kept", "road", "place", "cell", "roads", "other", "told", "due"] "law" (defScope s_law) f cdv A outer s H E) (E := E) rfl rfl rfl rfl
  have hp := passes_of (X := cxOf (L2.CX P w) P w K mg base ["script", "draws", "wide", "net", "kept", "road", "place", "cell", "roads", "other", "told", "due"] "law" (defScope s_law) f cdv A outer s H E) rfl
  have nd := (sc_law).nd
  unfold b_law
  exact pss_cons' (asg (pu_fz (call_ c__law_draws hr tk (ac (nm 0) pa_nil'))) (tn 1 nd))
      (pss_cons' (asg (int_ B (ac ((eq_ hu ((call_ c__law_at hr tk (ac (nm 1) (ac ((pu_int).br) (ac ((pu_int).br) pa_nil')))).br) ((pu_int).br)).br) pa_nil')) (tn 2 nd))
      (pss_cons' (asg (pu_fz (call_ c__law_net hr tk (ac (nm 1) (ac ((pu_int).br) (ac ((ix_ ((pu_lst (ac pu_int (ac pu_int pa_nil'))).br) (nm 2)).br) pa_nil'))))) (tn 3 nd))
      (pss_cons' (asg (pu_fz (pu_tup (ac (ix_ (nm 3) ((pu_int).br)) (ac (list_ B (ac ((ix_ (nm 3) ((pu_int).br)).br) pa_nil')) pa_nil')))) (tn 4 nd))
      (pss_cons' (asg (pu_fz (call_ c__law_walk hr tk (ac (nm 1) (ac ((pu_int).br) (ac (nm 3) (ac ((ix_ ((pu_lst (ac pu_int (ac pu_int pa_nil'))).br) (nm 2)).br) pa_nil')))))) (tn 5 nd))
      (pss_cons' (asg (pu_fz (call_ c__law_at hr tk (ac (nm 1) (ac ((pu_int).br) (ac ((len_ B (ac (nm 5) pa_nil')).br) pa_nil'))))) (tn 6 nd))
      (pss_cons' (asg (sub_ ((call_ c__law_at hr tk (ac (nm 1) (ac ((pu_int).br) (ac ((add_ ((ix_ (nm 3) ((pu_int).br)).br) ((pu_int).br)).br) pa_nil')))).br) ((pu_int).br)) (tn 7 nd))
      (pss_cons' (asg (pu_lst (ac (pu_z (nm 5)) (ac (add_ ((add_ ((pu_cut (nm 5) po_no (po_so (nm 6))).br) ((pu_lst (ac (pu_z (nm 7)) pa_nil')).br)).br) ((pu_cut (nm 5) (po_so ((add_ (nm 6) ((pu_int).br)).br)) po_no).br)) (ac (add_ ((pu_cut (nm 5) po_no (po_so (nm 6))).br) ((pu_cut (nm 5) (po_so ((add_ (nm 6) ((pu_int).br)).br)) po_no).br)) (ac (pu_rev (nm 5)) (ac (pu_lst pa_nil') pa_nil')))))) (tn 8 nd))
      (pss_cons' (app 8 (pu_fz (add_ ((add_ ((pu_cut (nm 5) po_no (po_so (nm 6))).br) ((pu_lst (ac (ix_ (nm 5) (nm 6)) pa_nil')).br)).br) ((pu_cut (nm 5) (po_so (nm 6)) po_no).br))))
      (pss_cons' (ps_frz (i := 8) (for_ hp rfl (pi_seqZ (nm 8)) (tn 9 nd)
      (pss_cons' (asg (pu_fz (call_ c_road_sum hr tk (ac (nm 3) (ac ((pu_fz (list_ B (ac (nm 9) pa_nil'))).br) pa_nil')))) (tn 10 nd))
      (pss_cons' (asg (pu_fz (call_ c__law_sum hr tk (ac (nm 4) (ac (nm 9) pa_nil')))) (tn 11 nd))
      (pss_one' (ps_if' (pt_w (pw_or' (tne_ hu (nm 10) (nm 11)) (pw_or' (pt_w (pw_and' (tisnt_ (nm 10) ((pu_non).br)) (pw_and1' (pt_not' (tv_ (call_ c__law_is_integer hr tk (ac (nm 10) pa_nil'))))))) (pw_or1' (tne_ hu (nm 3) (nm 4))))))
      (pss_one' (ps_ret' pu_bl))
      pss_nil'))))))
      (pss_one' (ps_ret' (isnt_ ((call_ c__law_sum hr tk (ac (nm 4) (ac (nm 5) pa_nil'))).br) ((pu_non).br)))))))))))))
end
end Z
end
/-! F_k01 -/
section
set_option Elab.async false
set_option linter.all false
set_option maxRecDepth 100000
set_option maxHeartbeats 4000000
namespace Z
open PySem L2 U
theorem all_mk {l : PySem.W.OpenLaw} {w : World} {K : PySem.W.Frag} {h : Heap} {mg : Str → Option Value} {fa f1 f2 f3 f4 f5 f6 f7 f8 f9 f10 f11 f12 : Addr} (X : K.In h) (G : h.Ns mainGlobals mg) (hfa : mg "law" = some (.ref fa))
    {od1 an1 od2 an2 od3 an3 od4 an4 od5 an5 od6 an6 od7 an7 od8 an8 od9 an9 od10 an10 od11 an11 od12 an12 : Option Addr} {sl1 sl2 sl3 sl4 sl5 sl6 sl7 sl8 sl9 sl10 sl11 sl12 : Array (Option Value)} {oc1 kV1 dc1 pm1 cd1 ct1 oc2 kV2 dc2 pm2 cd2 ct2 oc3 kV3 dc3 pm3 cd3 ct3 oc4 kV4 dc4 pm4 cd4 ct4 oc5 kV5 dc5 pm5 cd5 ct5 oc6 kV6 dc6 pm6 cd6 ct6 oc7 kV7 dc7 pm7 cd7 ct7 oc8 kV8 dc8 pm8 cd8 ct8 oc9 kV9 dc9 pm9 cd9 ct9 oc10 kV10 dc10 pm10 cd10 ct10 oc11 kV11 dc11 pm11 cd11 ct11 oc12 kV12 dc12 pm12 cd12 ct12 : Value}
    (a1 : PySem.W.nsIn K mainGlobals "link_index" = some (some (.ref f1))) (l1 : K.lookup f1 = some ⟨oc1, od1, .func (PySem.W.fnOf "link_index" "link_index" (defArgs s_link_index) (defBody s_link_index) (defScope s_link_index) .none kV1 dc1 pm1 an1 cd1 ct1), sl1⟩) (c1 : PySem.W.codeIn K cd1 "link_index" = true) (k1 : PySem.W.keepIn K (.ref f1) = true)
    (a2 : PySem.W.nsIn K mainGlobals "link_price" = some (some (.ref f2))) (l2 : K.lookup f2 = some ⟨oc2, od2, .func (PySem.W.fnOf "link_price" "link_price" (defArgs s_link_price) (defBody s_link_price) (defScope s_link_price) .none kV2 dc2 pm2 an2 cd2 ct2), sl2⟩) (c2 : PySem.W.codeIn K cd2 "link_price" = true) (k2 : PySem.W.keepIn K (.ref f2) = true)
    (a3 : PySem.W.nsIn K mainGlobals "road_sum" = some (some (.ref f3))) (l3 : K.lookup f3 = some ⟨oc3, od3, .func (PySem.W.fnOf "road_sum" "road_sum" (defArgs s_road_sum) (defBody s_road_sum) (defScope s_road_sum) .none kV3 dc3 pm3 an3 cd3 ct3), sl3⟩) (c3 : PySem.W.codeIn K cd3 "road_sum" = true) (k3 : PySem.W.keepIn K (.ref f3) = true)
    (a4 : PySem.W.nsIn K mainGlobals "_law_draws" = some (some (.ref f4))) (l4 : K.lookup f4 = some ⟨oc4, od4, .func (PySem.W.fnOf "_law_draws" "_law_draws" (defArgs s__law_draws) (defBody s__law_draws) (defScope s__law_draws) .none kV4 dc4 pm4 an4 cd4 ct4), sl4⟩) (c4 : PySem.W.codeIn K cd4 "_law_draws" = true) (k4 : PySem.W.keepIn K (.ref f4) = true)
    (a5 : PySem.W.nsIn K mainGlobals "_law_at" = some (some (.ref f5))) (l5 : K.lookup f5 = some ⟨oc5, od5, .func (PySem.W.fnOf "_law_at" "_law_at" (defArgs s__law_at) (defBody s__law_at) (defScope s__law_at) .none kV5 dc5 pm5 an5 cd5 ct5), sl5⟩) (c5 : PySem.W.codeIn K cd5 "_law_at" = true) (k5 : PySem.W.keepIn K (.ref f5) = true)
    (a6 : PySem.W.nsIn K mainGlobals "_law_is_integer" = some (some (.ref f6))) (l6 : K.lookup f6 = some ⟨oc6, od6, .func (PySem.W.fnOf "_law_is_integer" "_law_is_integer" (defArgs s__law_is_integer) (defBody s__law_is_integer) (defScope s__law_is_integer) .none kV6 dc6 pm6 an6 cd6 ct6), sl6⟩) (c6 : PySem.W.codeIn K cd6 "_law_is_integer" = true) (k6 : PySem.W.keepIn K (.ref f6) = true)
    (a7 : PySem.W.nsIn K mainGlobals "_law_mix" = some (some (.ref f7))) (l7 : K.lookup f7 = some ⟨oc7, od7, .func (PySem.W.fnOf "_law_mix" "_law_mix" (defArgs s__law_mix) (defBody s__law_mix) (defScope s__law_mix) .none kV7 dc7 pm7 an7 cd7 ct7), sl7⟩) (c7 : PySem.W.codeIn K cd7 "_law_mix" = true) (k7 : PySem.W.keepIn K (.ref f7) = true)
    (a8 : PySem.W.nsIn K mainGlobals "_law_price" = some (some (.ref f8))) (l8 : K.lookup f8 = some ⟨oc8, od8, .func (PySem.W.fnOf "_law_price" "_law_price" (defArgs s__law_price) (defBody s__law_price) (defScope s__law_price) .none kV8 dc8 pm8 an8 cd8 ct8), sl8⟩) (c8 : PySem.W.codeIn K cd8 "_law_price" = true) (k8 : PySem.W.keepIn K (.ref f8) = true)
    (a9 : PySem.W.nsIn K mainGlobals "_law_net" = some (some (.ref f9))) (l9 : K.lookup f9 = some ⟨oc9, od9, .func (PySem.W.fnOf "_law_net" "_law_net" (defArgs s__law_net) (defBody s__law_net) (defScope s__law_net) .none kV9 dc9 pm9 an9 cd9 ct9), sl9⟩) (c9 : PySem.W.codeIn K cd9 "_law_net" = true) (k9 : PySem.W.keepIn K (.ref f9) = true)
    (a10 : PySem.W.nsIn K mainGlobals "_law_walk" = some (some (.ref f10))) (l10 : K.lookup f10 = some ⟨oc10, od10, .func (PySem.W.fnOf "_law_walk" "_law_walk" (defArgs s__law_walk) (defBody s__law_walk) (defScope s__law_walk) .none kV10 dc10 pm10 an10 cd10 ct10), sl10⟩) (c10 : PySem.W.codeIn K cd10 "_law_walk" = true) (k10 : PySem.W.keepIn K (.ref f10) = true)
    (a11 : PySem.W.nsIn K mainGlobals "_law_sum" = some (some (.ref f11))) (l11 : K.lookup f11 = some ⟨oc11, od11, .func (PySem.W.fnOf "_law_sum" "_law_sum" (defArgs s__law_sum) (defBody s__law_sum) (defScope s__law_sum) .none kV11 dc11 pm11 an11 cd11 ct11), sl11⟩) (c11 : PySem.W.codeIn K cd11 "_law_sum" = true) (k11 : PySem.W.keepIn K (.ref f11) = true)
    (a12 : PySem.W.nsIn K mainGlobals "law" = some (some (.ref f12))) (l12 : K.lookup f12 = some ⟨oc12, od12, .func (PySem.W.fnOf "law" "law" (defArgs s_law) (defBody s_law) (defScope s_law) .none kV12 dc12 pm12 an12 cd12 ct12), sl12⟩) (c12 : PySem.W.codeIn K cd12 "law" = true) (k12 : PySem.W.keepIn K (.ref f12) = true)
    (z_len : PySem.W.nsIn K mainGlobals "len" = some none)
    (z_range : PySem.W.nsIn K mainGlobals "range" = some none)
    (z_abs : PySem.W.nsIn K mainGlobals "abs" = some none)
    (z_int : PySem.W.nsIn K mainGlobals "int" = some none)
    (z_min : PySem.W.nsIn K mainGlobals "min" = some none)
    (z_max : PySem.W.nsIn K mainGlobals "max" = some none)
    (z_list : PySem.W.nsIn K mainGlobals "list" = some none)
    (z_isinstance : PySem.W.nsIn K mainGlobals "isinstance" = some none)
    (z_bool : PySem.W.nsIn K mainGlobals "bool" = some none)
    (z_tuple : PySem.W.nsIn K mainGlobals "tuple" = some none)
    : ∃ fd : FuncData, (∀ (s : Shared) (v : Value), BindsTo s fd ⟨[v], []⟩ [("script", v)]) ∧ ∀ base : Heap, K.In base → base.Ns mainGlobals mg → FnOk l.prog w K mg base (L2.CX l.prog w) 4 fa fd ["script"] (spL K) := by
  have e := hfa.symm.trans (PySem.W.mg_of X G a12)
  cases e
  have B : Blt mg := ⟨PySem.W.mg_none_of X G z_len, PySem.W.mg_none_of X G z_range, PySem.W.mg_none_of X G z_abs, PySem.W.mg_none_of X G z_int, PySem.W.mg_none_of X G z_min, PySem.W.mg_none_of X G z_max, PySem.W.mg_none_of X G z_list, PySem.W.mg_none_of X G z_isinstance, PySem.W.mg_none_of X G z_bool, PySem.W.mg_none_of X G z_tuple⟩
  have F1 := fun_mk (st := s_link_index) l1 c1 k1
  have D1 : Df K mg "link_index" s_link_index ["net", "a", "b"] := ⟨_, _, F1, PySem.W.mg_of X G a1, F1.binds (ps := ["net", "a", "b"]) fun _ _ _ _ _ _ us hl => match us, hl with | [_, _, _], _ => rfl⟩
  have F2 := fun_mk (st := s_link_price) l2 c2 k2
  have D2 : Df K mg "link_price" s_link_price ["net", "a", "b"] := ⟨_, _, F2, PySem.W.mg_of X G a2, F2.binds (ps := ["net", "a", "b"]) fun _ _ _ _ _ _ us hl => match us, hl with | [_, _, _], _ => rfl⟩
  have F3 := fun_mk (st := s_road_sum) l3 c3 k3
  have D3 : Df K mg "road_sum" s_road_sum ["net", "road"] := ⟨_, _, F3, PySem.W.mg_of X G a3, F3.binds (ps := ["net", "road"]) fun _ _ _ _ _ _ us hl => match us, hl with | [_, _], _ => rfl⟩
  have F4 := fun_mk (st := s__law_draws) l4 c4 k4
  have D4 : Df K mg "_law_draws" s__law_draws ["script"] := ⟨_, _, F4, PySem.W.mg_of X G a4, F4.binds (ps := ["script"]) fun _ _ _ _ _ _ us hl => match us, hl with | [_], _ => rfl⟩
  have F5 := fun_mk (st := s__law_at) l5 c5 k5
  have D5 : Df K mg "_law_at" s__law_at ["draws", "k", "many"] := ⟨_, _, F5, PySem.W.mg_of X G a5, F5.binds (ps := ["draws", "k", "many"]) fun _ _ _ _ _ _ us hl => match us, hl with | [_, _, _], _ => rfl⟩
  have F6 := fun_mk (st := s__law_is_integer) l6 c6 k6
  have D6 : Df K mg "_law_is_integer" s__law_is_integer ["actual"] := ⟨_, _, F6, PySem.W.mg_of X G a6, F6.binds (ps := ["actual"]) fun _ _ _ _ _ _ us hl => match us, hl with | [_], _ => rfl⟩
  have F7 := fun_mk (st := s__law_mix) l7 c7 k7
  have D7 : Df K mg "_law_mix" s__law_mix ["draws", "k", "many"] := ⟨_, _, F7, PySem.W.mg_of X G a7, F7.binds (ps := ["draws", "k", "many"]) fun _ _ _ _ _ _ us hl => match us, hl with | [_, _, _], _ => rfl⟩
  have F8 := fun_mk (st := s__law_price) l8 c8 k8
  have D8 : Df K mg "_law_price" s__law_price ["draws", "k"] := ⟨_, _, F8, PySem.W.mg_of X G a8, F8.binds (ps := ["draws", "k"]) fun _ _ _ _ _ _ us hl => match us, hl with | [_, _], _ => rfl⟩
  have F9 := fun_mk (st := s__law_net) l9 c9 k9
  have D9 : Df K mg "_law_net" s__law_net ["draws", "k", "most"] := ⟨_, _, F9, PySem.W.mg_of X G a9, F9.binds (ps := ["draws", "k", "most"]) fun _ _ _ _ _ _ us hl => match us, hl with | [_, _, _], _ => rfl⟩
  have F10 := fun_mk (st := s__law_walk) l10 c10 k10
  have D10 : Df K mg "_law_walk" s__law_walk ["draws", "k", "net", "most"] := ⟨_, _, F10, PySem.W.mg_of X G a10, F10.binds (ps := ["draws", "k", "net", "most"]) fun _ _ _ _ _ _ us hl => match us, hl with | [_, _, _, _], _ => rfl⟩
  have F11 := fun_mk (st := s__law_sum) l11 c11 k11
  have D11 : Df K mg "_law_sum" s__law_sum ["net", "road"] := ⟨_, _, F11, PySem.W.mg_of X G a11, F11.binds (ps := ["net", "road"]) fun _ _ _ _ _ _ us hl => match us, hl with | [_, _], _ => rfl⟩
  have F12 := fun_mk (st := s_law) l12 c12 k12
  refine ⟨PySem.W.fnOf "law" "law" (defArgs s_law) (defBody s_law) (defScope s_law) .none kV12 dc12 pm12 an12 cd12 ct12, fun s v => .of_eq rfl, fun base _ _ => ?_⟩
  have c_link_index := ok_link_index (P := l.prog) (w := w) (base := base) B D1 
  have c_link_price := ok_link_price (P := l.prog) (w := w) (base := base) B D2 c_link_index
  have c_road_sum := ok_road_sum (P := l.prog) (w := w) (base := base) B D3 c_link_price
  have c__law_draws := ok__law_draws (P := l.prog) (w := w) (base := base) B D4 
  have c__law_at := ok__law_at (P := l.prog) (w := w) (base := base) B D5 
  have c__law_is_integer := ok__law_is_integer (P := l.prog) (w := w) (base := base) B D6 
  have c__law_mix := ok__law_mix (P := l.prog) (w := w) (base := base) B D7 
  have c__law_price := ok__law_price (P := l.prog) (w := w) (base := base) B D8 c__law_mix
  have c__law_net := ok__law_net (P := l.prog) (w := w) (base := base) B D9 c__law_mix c__law_price
  have c__law_walk := ok__law_walk (P := l.prog) (w := w) (base := base) B D10 c__law_mix
  have c__law_sum := ok__law_sum (P := l.prog) (w := w) (base := base) B D11 
  exact (fn_law F12 B c__law_draws c__law_at c__law_net c__law_walk c_road_sum c__law_sum c__law_is_integer).imp (spL_of law_true)
end Z
open PySem PySem.W PyProof.Rows
set_option maxHeartbeats 0 in
theorem PySem.Challenge.cw_overpasses_k01_sums_of_roads_holds : PySem.Challenge.rw_overpasses_k01_sums_of_roads.Holds := by
  w_on; o_law; k_head; (case hw => w_witness2)
  k_fill
  refine L2.walk_of (l := PySem.Challenge.rw_overpasses_k01_sums_of_roads) (n := 63) (k := 4) (x := "script") (CX := fun w => L2.CX (PySem.Challenge.rw_overpasses_k01_sums_of_roads).prog w) (sp := fun w => U.spL _) rfl (by decide) rfl ⟨rfl, by decide, by decide⟩ (fun w h Y => PySem.W.kIn_of Y) ?F (fun _ _ a ns hl on hS => ⟨a, ns, rfl, on, hS, hl, fun _ => rfl⟩) (fun _ _ _ _ _ h => U.cx_no h)
  case F =>
    intro w mg fa h KX G hmg
    refine' Z.all_mk KX G hmg ?a1 ?l1 ?c1 ?k1 ?a2 ?l2 ?c2 ?k2 ?a3 ?l3 ?c3 ?k3 ?a4 ?l4 ?c4 ?k4 ?a5 ?l5 ?c5 ?k5 ?a6 ?l6 ?c6 ?k6 ?a7 ?l7 ?c7 ?k7 ?a8 ?l8 ?c8 ?k8 ?a9 ?l9 ?c9 ?k9 ?a10 ?l10 ?c10 ?k10 ?a11 ?l11 ?c11 ?k11 ?a12 ?l12 ?c12 ?k12 ?z_len ?z_range ?z_abs ?z_int ?z_min ?z_max ?z_list ?z_isinstance ?z_bool ?z_tuple
    (case a1 => k_is)
    (case l1 => k_is)
    (case c1 => k_is)
    (case k1 => k_is)
    (case a2 => k_is)
    (case l2 => k_is)
    (case c2 => k_is)
    (case k2 => k_is)
    (case a3 => k_is)
    (case l3 => k_is)
    (case c3 => k_is)
    (case k3 => k_is)
    (case a4 => k_is)
    (case l4 => k_is)
    (case c4 => k_is)
    (case k4 => k_is)
    (case a5 => k_is)
    (case l5 => k_is)
    (case c5 => k_is)
    (case k5 => k_is)
    (case a6 => k_is)
    (case l6 => k_is)
    (case c6 => k_is)
    (case k6 => k_is)
    (case a7 => k_is)
    (case l7 => k_is)
    (case c7 => k_is)
    (case k7 => k_is)
    (case a8 => k_is)
    (case l8 => k_is)
    (case c8 => k_is)
    (case k8 => k_is)
    (case a9 => k_is)
    (case l9 => k_is)
    (case c9 => k_is)
    (case k9 => k_is)
    (case a10 => k_is)
    (case l10 => k_is)
    (case c10 => k_is)
    (case k10 => k_is)
    (case a11 => k_is)
    (case l11 => k_is)
    (case c11 => k_is)
    (case k11 => k_is)
    (case a12 => k_is)
    (case l12 => k_is)
    (case c12 => k_is)
    (case k12 => k_is)
    (case z_len => k_is)
    (case z_range => k_is)
    (case z_abs => k_is)
    (case z_int => k_is)
    (case z_min => k_is)
    (case z_max => k_is)
    (case z_list => k_is)
    (case z_isinstance => k_is)
    (case z_bool => k_is)
    (case z_tuple => k_is)
end
