import PyProof.Rows.All
import Wide.All
import OpenK.AllK
import Wide.FinOn
import PySem.PyData
import PyProof.EqLayable
import HandS.ForMost
import HandS.ForExc
import HandS.CallSlots
import HandS.TupAny
import HandS.Deep
import HandS.Zip
import HandS.Conv
import HandS.Style
import HandS.SortInts
import HandS.Strs
import HandS.IsInst
import HandS.SortOrd
import HandS.SortRule
import HandS.More
import HandS.ClsMeth
import HandS.TupSets
import KE.GoesEnum
import KE.KIndexOf
import HandS.ReCall
import PySem.Challenge.RW_neveralone_k40_unbeaten_by_definition
set_option Elab.async false
set_option linter.all false
set_option maxRecDepth 100000
section
/-! Pu, the pure side: data, slots, outcomes; each def of the program as a function on slots. -/
namespace Pu
open PySem

/-- a key of a dict: tuples of these -/
abbrev PKey := Sum Int Str
/-- data, without a heap -/
inductive D where
  | non | bl (b : Bool) | int (i : Int) | str (s : Str)
  | lst (xs : List D) | tup (xs : List D)
  /-- a tuple whose object is known to have no dict -/
  | tux (xs : List D)
  | obj (C : Nat) (ns : List Str) (vs : List D)
  /-- the script -/
  | scr (ns : List Int)
/-- what a slot holds: data; or a list, a dict, an object that nothing else holds -/
inductive S where
  | no | im (d : D) | ml (xs : List D) | md (kvs : List (List PKey × D)) | mo (C : Nat) (fs : List (Str × D))
  | ex (C : Nat) (ns : List Str) (vs : List D)
abbrev Rho := List S

/-- what an expression gives -/
inductive OP (α : Type) where
  | stuck | ok (a : α) | exc (C : Nat) (ns : List Str) (vs : List D)
namespace OP
def bind {α β : Type} (o : OP α) (k : α → OP β) : OP β :=
  match o with
  | .stuck => .stuck
  | .ok a => k a
  | .exc C ns vs => .exc C ns vs
def of {α : Type} : Option α → OP α
  | none => .stuck
  | some a => .ok a
@[simp] theorem bind_ok {α β : Type} (a : α) (k : α → OP β) : (OP.ok a).bind k = k a := rfl
@[simp] theorem bind_stuck {α β : Type} (k : α → OP β) : (OP.stuck : OP α).bind k = .stuck := rfl
@[simp] theorem bind_exc {α β : Type} (C : Nat) (ns : List Str) (vs : List D) (k : α → OP β) : (OP.exc C ns vs : OP α).bind k = .exc C ns vs := rfl
@[simp] theorem of_some {α : Type} (a : α) : OP.of (some a) = .ok a := rfl
@[simp] theorem of_none {α : Type} : (OP.of none : OP α) = .stuck := rfl
end OP
/-- an expression, with the slots read only -/
abbrev PE' := Rho → OP D
abbrev PT' := Rho → OP Bool
abbrev PF' := Rho → OP (List D)

/-- what a def hands back: data, or a new list that nothing else holds -/
inductive RV where
  | val (d : D) | fresh (xs : List D)
def RV.d : RV → D
  | .val d => d
  | .fresh xs => .lst xs
inductive OF where
  | stuck | ret (r : RV) | exc (C : Nat) (ns : List Str) (vs : List D)
/-- what a statement does -/
inductive OS where
  | stuck | nx (ρ : Rho) | ret (r : RV) | bk (ρ : Rho) | ct (ρ : Rho) | exc (C : Nat) (ns : List Str) (vs : List D) (ρ : Rho)
abbrev SS := Rho → OS

/-! ### expressions -/
def pC (d : D) : PE' := fun _ => .ok d
/-- a slot that holds data -/
def pV (i : Nat) : PE' := fun ρ => match ρ[i]? with
  | some (.im d) => .ok d
  | _ => .stuck
/-- a slot, read where it is not kept -/
def pB (i : Nat) : PE' := fun ρ => match ρ[i]? with
  | some (.im d) => .ok d
  | some (.ml xs) => .ok (.lst xs)
  | _ => .stuck
def p1 (f : D → Option D) (a : PE') : PE' := fun ρ => (a ρ).bind fun x => .of (f x)
def p2 (f : D → D → Option D) (a b : PE') : PE' := fun ρ => (a ρ).bind fun x => (b ρ).bind fun y => .of (f x y)
def p3 (f : D → D → D → Option D) (a b c : PE') : PE' := fun ρ => (a ρ).bind fun x => (b ρ).bind fun y => (c ρ).bind fun z => .of (f x y z)
def pArgs : List PE' → Rho → OP (List D)
  | [], _ => .ok []
  | a :: r, ρ => (a ρ).bind fun x => (pArgs r ρ).bind fun xs => .ok (x :: xs)
/-- a built-in with its arguments -/
def pN (f : List D → Option D) (as : List PE') : PE' := fun ρ => (pArgs as ρ).bind fun xs => .of (f xs)
def fN (f : List D → Option (List D)) (as : List PE') : PF' := fun ρ => (pArgs as ρ).bind fun xs => .of (f xs)
/-- a new list, held -/
def pOfF (f : PF') : PE' := fun ρ => (f ρ).bind fun xs => .ok (.lst xs)
def OF.val : OF → OP D
  | .stuck => .stuck
  | .ret r => .ok r.d
  | .exc C ns vs => .exc C ns vs
def OF.new : OF → OP (List D)
  | .ret (.fresh xs) => .ok xs
  | .exc C ns vs => .exc C ns vs
  | _ => .stuck
def D.flat : D → Bool
  | .non => true | .bl _ => true | .int _ => true | .str _ => true | _ => false
def OF.flat : OF → OP D
  | .ret r => if r.d.flat then .ok r.d else .stuck
  | .exc C ns vs => if vs.all D.flat then .exc C ns vs else .stuck
  | .stuck => .stuck
/-- a call of a def, by its function -/
def pCall (F : List D → OF) (as : List PE') : PE' := fun ρ => (pArgs as ρ).bind fun xs => (F xs).val
def fCall (F : List D → OF) (as : List PE') : PF' := fun ρ => (pArgs as ρ).bind fun xs => (F xs).new
/-- .. whose answer is a number, a text, True, False, None -/
def pCallB (F : List D → OF) (as : List PE') : PE' := fun ρ => (pArgs as ρ).bind fun xs => (F xs).flat
/-! ### tests -/
def tOf (a : PE') : PT' := fun ρ => (a ρ).bind fun x => match x with
  | .bl b => .ok b
  | _ => .stuck
def tAnd (a b : PT') : PT' := fun ρ => (a ρ).bind fun x => if x then b ρ else .ok false
def tOr (a b : PT') : PT' := fun ρ => (a ρ).bind fun x => if x then .ok true else b ρ
def tNot (a : PT') : PT' := fun ρ => (a ρ).bind fun x => .ok (!x)
/-- a test's answer as a value -/
def pBl (a : PT') : PE' := fun ρ => (a ρ).bind fun x => .ok (.bl x)
def pIf (t : PT') (a b : PE') : PE' := fun ρ => (t ρ).bind fun x => if x then a ρ else b ρ
/-! ### comprehensions -/
def compL {α : Type} (f : α → OP (Option D)) : List α → OP (List D)
  | [] => .ok []
  | x :: r => (f x).bind fun o => (compL f r).bind fun l => .ok (match o with
    | none => l
    | some y => y :: l)
/-- a target of an assignment -/
abbrev TG' := D → Rho → Option Rho
def gN (i : Nat) : TG' := fun d ρ => some (ρ.set i (.im d))
/-- the slots is get the data ds -/
def setL : List Nat → List D → Rho → Rho
  | i :: is, d :: ds, ρ => setL is ds (ρ.set i (.im d))
  | _, _, ρ => ρ
def gT (is : List Nat) : TG' := fun d ρ => match d with
  | .tup ds => if ds.length = is.length then some (setL is ds ρ) else none
  | _ => none
def wipeR (ρ : Rho) : List Nat → Rho
  | [] => ρ
  | v :: vs => (wipeR ρ vs).set v .no
def noExc {α : Type} : OP α → OP α
  | .exc _ _ _ => .stuck
  | o => o
@[simp] theorem noExc_ok {α : Type} (a : α) : noExc (OP.ok a) = .ok a := rfl
def fComp (own : List Nat) (g : TG') (it : PF') (t : PT') (e : PE') : PF' := fun ρ => (it ρ).bind fun xs =>
  noExc (compL (fun x => (OP.of (g x (wipeR ρ own))).bind fun ρ' => (t ρ').bind fun b => if b then (e ρ').bind fun y => .ok (some y) else .ok none) xs)
def tYes : PT' := fun _ => .ok true

/-! ### statements -/
def sNx : SS := fun ρ => .nx ρ
def sSeq (a b : SS) : SS := fun ρ => match a ρ with
  | .nx ρ' => b ρ'
  | o => o
def sIf (t : PT') (a b : SS) : SS := fun ρ => match t ρ with
  | .ok true => a ρ
  | .ok false => b ρ
  | .stuck => .stuck
  | .exc C ns vs => .exc C ns vs ρ
def opS {α : Type} (o : OP α) (ρ : Rho) (k : α → OS) : OS := match o with
  | .ok a => k a
  | .stuck => .stuck
  | .exc C ns vs => .exc C ns vs ρ
@[simp] theorem opS_ok {α : Type} (a : α) (ρ : Rho) (k : α → OS) : opS (.ok a) ρ k = k a := rfl
/-- target = e -/
def sAsg (g : TG') (e : PE') : SS := fun ρ => opS (e ρ) ρ fun d => match g d ρ with
  | some ρ' => .nx ρ'
  | none => .stuck
/-- name = a new list -/
def sAsgF (i : Nat) (e : PF') : SS := fun ρ => opS (e ρ) ρ fun xs => .nx (ρ.set i (.ml xs))
def sRet (e : PE') : SS := fun ρ => opS (e ρ) ρ fun d => .ret (.val d)
def sRetF (e : PF') : SS := fun ρ => opS (e ρ) ρ fun xs => .ret (.fresh xs)
/-- return of a list that is the def's own -/
def sRetM (i : Nat) : SS := fun ρ => match ρ[i]? with
  | some (.ml xs) => .ret (.fresh xs)
  | _ => .stuck
def sDrop (e : PE') : SS := fun ρ => opS (e ρ) ρ fun _ => .nx ρ
/-- from now on the list is data -/
def share (i : Nat) (ρ : Rho) : Rho := match ρ[i]? with
  | some (.ml xs) => ρ.set i (.im (.lst xs))
  | _ => ρ
def sShare (i : Nat) (s : SS) : SS := fun ρ => s (share i ρ)
def line : Nat := 16777216
/-- x.append(e) -/
def sApp (i : Nat) (e : PE') : SS := fun ρ => match ρ[i]? with
  | some (.ml xs) => opS (e ρ) ρ fun d => if xs.length < line then .nx (ρ.set i (.ml (xs ++ [d]))) else .stuck
  | _ => .stuck
def loop (g : TG') (b : SS) : List D → Rho → OS
  | [], ρ => .nx ρ
  | x :: r, ρ => match g x ρ with
    | none => .stuck
    | some ρ1 => match b ρ1 with
      | .nx ρ2 => loop g b r ρ2
      | .ct ρ2 => loop g b r ρ2
      | .bk ρ2 => .nx ρ2
      | o => o
def sFor (g : TG') (it : PF') (b : SS) : SS := fun ρ => opS (it ρ) ρ fun xs => loop g b xs ρ
def whileL (t : PT') (b : SS) : Nat → Rho → OS
  | 0, _ => .stuck
  | n + 1, ρ => match t ρ with
    | .ok true => (match b ρ with
      | .nx ρ2 => whileL t b n ρ2
      | .ct ρ2 => whileL t b n ρ2
      | .bk ρ2 => .nx ρ2
      | o => o)
    | .ok false => .nx ρ
    | .stuck => .stuck
    | .exc C ns vs => .exc C ns vs ρ
def sWhile (fuel : Rho → Nat) (t : PT') (b : SS) : SS := fun ρ => whileL t b (fuel ρ) ρ
def sBk : SS := fun ρ => .bk ρ
def sCt : SS := fun ρ => .ct ρ

/-- x.append(y.pop(i)) and its like: an expression that changes a slot -/
abbrev QE' := Rho → OP (D × Rho)
def eP (a : PE') : QE' := fun ρ => (a ρ).bind fun d => .ok (d, ρ)
def ixP (n : Nat) (i : Int) : Option Nat := if 0 ≤ i then (if i < n then some i.toNat else none) else if -(n : Int) ≤ i then some (i + n).toNat else none
/-- y.pop(i) -/
def ePopAt (j : Nat) (a : PE') : QE' := fun ρ => match ρ[j]? with
  | some (.ml xs) => (a ρ).bind fun d => match d with
    | .int i => if -(2 ^ 63) ≤ i ∧ i < 2 ^ 63 then (match ixP xs.length i with
      | some k => (match xs[k]? with
        | some x => .ok (x, ρ.set j (.ml (xs.eraseIdx k)))
        | none => .stuck)
      | none => .stuck) else .stuck
    | _ => .stuck
  | _ => .stuck
/-- y.pop() -/
def ePop (j : Nat) : QE' := fun ρ => match ρ[j]? with
  | some (.ml xs) => (match xs.getLast? with
    | some x => .ok (x, ρ.set j (.ml xs.dropLast))
    | none => .stuck)
  | _ => .stuck
def sAsgE (g : TG') (e : QE') : SS := fun ρ => opS (e ρ) ρ fun p => match g p.1 p.2 with
  | some ρ' => .nx ρ'
  | none => .stuck
def sDropE (e : QE') : SS := fun ρ => opS (e ρ) ρ fun p => .nx p.2
def sAppE (i : Nat) (e : QE') : SS := fun ρ => match ρ[i]? with
  | some (.ml _) => opS (e ρ) ρ fun p => (match p.2[i]? with
    | some (.ml xs) => if xs.length < line then .nx (p.2.set i (.ml (xs ++ [p.1]))) else .stuck
    | _ => .stuck)
  | _ => .stuck
/-- self.f = e -/
def putD (f : Str) (v : D) : List (Str × D) → List (Str × D)
  | [] => [(f, v)]
  | (g, x) :: r => if g = f then (g, v) :: r else (g, x) :: putD f v r
def sFld (i C0 : Nat) (f : Str) (e : PE') : SS := fun ρ => opS (e ρ) ρ fun d => match ρ[i]? with
  | some (.mo C fs) => if C = C0 ∧ fs.length < 100 then .nx (ρ.set i (.mo C (putD f d fs))) else .stuck
  | _ => .stuck
/-- a def: its arguments in the first of n slots -/
def startR (n : Nat) (ds : List D) : Rho := ds.map .im ++ List.replicate (n - ds.length) .no
def OS.fn : OS → OF
  | .ret r => .ret r
  | .nx _ => .ret (.val .non)
  | .exc C ns vs _ => .exc C ns vs
  | _ => .stuck
/-- what an __init__ leaves -/
inductive OI where
  | stuck | ok (C : Nat) (fs : List (Str × D)) | exc (C : Nat) (ns : List Str) (vs : List D)
/-- an __init__ of the class C: self, then m arguments, in n slots -/
def runI (n m : Nat) (s : SS) (C : Nat) (ds : List D) : OI := if ds.length = m then
    match s (.mo C [] :: (ds.map .im ++ List.replicate (n - (ds.length + 1)) .no)) with
    | .nx ρ => (match ρ.head? with
      | some (S.mo C' fs) => if C' = C then .ok C fs else .stuck
      | _ => .stuck)
    | .ret (.val .non) => .stuck
    | .exc C ns vs _ => .exc C ns vs
    | _ => .stuck
  else .stuck
theorem runI_C {n m : Nat} {s : SS} {C : Nat} {ds : List D} {C' : Nat} {fs : List (Str × D)} (h : runI n m s C ds = .ok C' fs) : C' = C := by
  unfold runI at h
  repeat' (split at h)
  all_goals first | (cases h; done) | (injection h with h1 _; exact h1.symm)
def OI.obj : OI → OP D
  | .ok C fs => .ok (.obj C (fs.map (·.1)) (fs.map (·.2)))
  | .exc C ns vs => .exc C ns vs
  | .stuck => .stuck
/-- C(..) -/
def pMake (F : List D → OI) (as : List PE') : PE' := fun ρ => (pArgs as ρ).bind fun xs => (F xs).obj
def runF (n m : Nat) (s : SS) (ds : List D) : OF := if ds.length = m then (s (startR n ds)).fn else .stuck
end Pu
end
section
/-! Pu, operators on data. -/
namespace Pu
open PySem

/-! ### ints -/
def iOp (g : Int → Int → Int) : D → D → Option D
  | .int i, .int j => some (.int (g i j))
  | _, _ => none
def iOpC (c : Int → Int → Bool) (g : Int → Int → Int) : D → D → Option D
  | .int i, .int j => if c i j then some (.int (g i j)) else none
  | _, _ => none
def bOp (g : Int → Int → Bool) : D → D → Option D
  | .int i, .int j => some (.bl (g i j))
  | _, _ => none
def oAdd := iOp (· + ·)
def oSub := iOp (· - ·)
def oMul := iOpC (fun i j => decide ((-(2 ^ 64) < i ∧ i < 2 ^ 64) ∨ (-(2 ^ 64) < j ∧ j < 2 ^ 64))) (· * ·)
def oMod := iOpC (fun _ j => decide (0 < j)) (· % ·)
def oDiv := iOpC (fun _ j => decide (0 < j ∧ j < 1073741824)) (· / ·)
def oPow := iOpC (fun i j => decide (0 ≤ j ∧ j ≤ 1000000 ∧ i.natAbs < 2 ^ 64)) (fun i j => i ^ j.toNat)
def oLt := bOp fun i j => decide (i < j)
def oLe := bOp fun i j => decide (i ≤ j)
def oGt := bOp fun i j => decide (j < i)
def oGe := bOp fun i j => decide (j ≤ i)
def oNeg : D → Option D
  | .int i => some (.int (-i))
  | _ => none
@[simp] theorem oAdd_int (i j : Int) : oAdd (.int i) (.int j) = some (.int (i + j)) := rfl
@[simp] theorem oSub_int (i j : Int) : oSub (.int i) (.int j) = some (.int (i - j)) := rfl
@[simp] theorem oLt_int (i j : Int) : oLt (.int i) (.int j) = some (.bl (decide (i < j))) := rfl
@[simp] theorem oLe_int (i j : Int) : oLe (.int i) (.int j) = some (.bl (decide (i ≤ j))) := rfl
@[simp] theorem oGt_int (i j : Int) : oGt (.int i) (.int j) = some (.bl (decide (j < i))) := rfl
@[simp] theorem oGe_int (i j : Int) : oGe (.int i) (.int j) = some (.bl (decide (j ≤ i))) := rfl
@[simp] theorem oNeg_int (i : Int) : oNeg (.int i) = some (.int (-i)) := rfl
theorem oMul_l {i j : Int} (h1 : -(2 ^ 64) < i) (h2 : i < 2 ^ 64) : oMul (.int i) (.int j) = some (.int (i * j)) := by
  show (if decide _ = true then _ else _) = _
  rw [if_pos (decide_eq_true (.inl ⟨h1, h2⟩))]
theorem oMul_r {i j : Int} (h1 : -(2 ^ 64) < j) (h2 : j < 2 ^ 64) : oMul (.int i) (.int j) = some (.int (i * j)) := by
  show (if decide _ = true then _ else _) = _
  rw [if_pos (decide_eq_true (.inr ⟨h1, h2⟩))]
theorem oMod_pos {i j : Int} (h : 0 < j) : oMod (.int i) (.int j) = some (.int (i % j)) := by
  show (if decide _ = true then _ else _) = _
  rw [if_pos (decide_eq_true h)]
theorem oDiv_pos {i j : Int} (h : 0 < j) (h2 : j < 1073741824) : oDiv (.int i) (.int j) = some (.int (i / j)) := by
  show (if decide _ = true then _ else _) = _
  rw [if_pos (decide_eq_true ⟨h, h2⟩)]

/-! ### as data of the library, for == and in -/
mutual
def D.py : D → Option PyData
  | .non => some .none
  | .bl b => some (.bool b)
  | .int i => some (.int i)
  | .str s => some (.str s)
  | .lst xs => (D.pys xs).map .list
  | .tup xs => (D.pys xs).map .tuple
  | .tux xs => (D.pys xs).map .tuple
  | .obj _ _ _ => none
  | .scr _ => none
def D.pys : List D → Option (List PyData)
  | [] => some []
  | x :: r => (D.py x).bind fun p => (D.pys r).map fun q => p :: q
end
def oEqB (a b : D) : Option Bool := match a.py, b.py with
  | some p, some q => if SeqAt.shaped p && SeqAt.shaped q then some (PyData.eqv p q) else none
  | _, _ => none
def oEq (a b : D) : Option D := (oEqB a b).map .bl
def oNe (a b : D) : Option D := (oEqB a b).map fun x => .bl (!x)
/-- x in a list or a tuple -/
def oInB (a b : D) : Option Bool := match a.py, b.py with
  | some p, some (.list qs) => if SeqAt.shaped p && SeqAt.shaped (.list qs) then some (qs.any fun z => PyData.eqv z p) else none
  | some p, some (.tuple qs) => if SeqAt.shaped p && SeqAt.shaped (.tuple qs) then some (qs.any fun z => PyData.eqv z p) else none
  | _, _ => none
def oIn (a b : D) : Option D := (oInB a b).map .bl
def oNotIn (a b : D) : Option D := (oInB a b).map fun x => .bl (!x)

/-- data of one kind -/
structure En (α : Type) [DecidableEq α] where
  d : α → D
  py : α → PyData
  dep : Nat
  is : ∀ a, (d a).py = some (py a)
  lay : ∀ a, (py a).canLay0 = true
  le : ∀ a, (py a).depth ≤ dep
  eqv : ∀ a b, PyData.eqv (py a) (py b) = decide (a = b)
def En.int : En Int where
  d := D.int
  py := PyData.int
  dep := 0
  is := fun _ => rfl
  lay := fun _ => by simp [PyData.canLay0]
  le := fun _ => by simp [PyData.depth]
  eqv := fun a b => by
    simp only [PyData.eqv]
    rw [Bool.eq_iff_iff]; simp
def En.bl : En Bool where
  d := D.bl
  py := PyData.bool
  dep := 0
  is := fun _ => rfl
  lay := fun _ => by simp [PyData.canLay0]
  le := fun _ => by simp [PyData.depth]
  eqv := fun a b => by
    simp only [PyData.eqv]
    rw [Bool.eq_iff_iff]; simp
section
variable {α : Type} [DecidableEq α] (E : En α)
theorem En.pys : ∀ xs : List α, D.pys (xs.map E.d) = some (xs.map E.py)
  | [] => rfl
  | x :: r => by
    show (D.py (E.d x)).bind _ = _
    rw [E.is x]
    show (D.pys (r.map E.d)).map _ = _
    rw [En.pys r]; rfl
theorem En.layAll : ∀ xs : List α, PyData.canLayAll0 (xs.map E.py) = true
  | [] => by simp [PyData.canLayAll0]
  | x :: r => by simp only [List.map_cons, PyData.canLayAll0, E.lay x, En.layAll r, Bool.and_self]
theorem En.depAll : ∀ xs : List α, PyData.depthAll (xs.map E.py) ≤ E.dep
  | [] => by simp [PyData.depthAll]
  | x :: r => by
    have h1 := E.le x
    have h2 := En.depAll r
    simp only [List.map_cons, PyData.depthAll]
    exact Nat.max_le.mpr ⟨h1, h2⟩
theorem En.eqvAll : ∀ xs ys : List α, PyData.eqvAll (xs.map E.py) (ys.map E.py) = decide (xs = ys)
  | [], [] => by simp [PyData.eqvAll]
  | [], y :: ys => by simp [PyData.eqvAll]
  | x :: xs, [] => by simp [PyData.eqvAll]
  | x :: xs, y :: ys => by
    simp only [List.map_cons, PyData.eqvAll, E.eqv x y, En.eqvAll xs ys]
    rw [Bool.eq_iff_iff]; simp
def En.lst : En (List α) where
  d := fun xs => .lst (xs.map E.d)
  py := fun xs => .list (xs.map E.py)
  dep := E.dep + 1
  is := fun xs => by show (D.pys (xs.map E.d)).map _ = _; rw [E.pys xs]; rfl
  lay := fun xs => by simp only [PyData.canLay0]; exact E.layAll xs
  le := fun xs => by simp only [PyData.depth]; have := E.depAll xs; omega
  eqv := fun xs ys => by simp only [PyData.eqv]; exact E.eqvAll xs ys
def En.tup : En (List α) where
  d := fun xs => .tup (xs.map E.d)
  py := fun xs => .tuple (xs.map E.py)
  dep := E.dep + 1
  is := fun xs => by show (D.pys (xs.map E.d)).map _ = _; rw [E.pys xs]; rfl
  lay := fun xs => by simp only [PyData.canLay0]; exact E.layAll xs
  le := fun xs => by simp only [PyData.depth]; have := E.depAll xs; omega
  eqv := fun xs ys => by simp only [PyData.eqv]; exact E.eqvAll xs ys
variable {E}
theorem En.shaped (h : E.dep ≤ 64) (a : α) : SeqAt.shaped (E.py a) = true := by
  unfold SeqAt.shaped
  rw [E.lay a]
  have := E.le a
  simp only [Bool.true_and, decide_eq_true_eq]
  omega
theorem En.oEqB (h : E.dep ≤ 64) (a b : α) : oEqB (E.d a) (E.d b) = some (decide (a = b)) := by
  unfold Pu.oEqB
  rw [E.is a, E.is b]
  simp only [En.shaped h, Bool.and_self, if_true, E.eqv]
theorem En.oEq (h : E.dep ≤ 64) (a b : α) : oEq (E.d a) (E.d b) = some (.bl (decide (a = b))) := by
  unfold Pu.oEq; rw [E.oEqB h]; rfl
theorem En.oNe (h : E.dep ≤ 64) (a b : α) : oNe (E.d a) (E.d b) = some (.bl (!decide (a = b))) := by
  unfold Pu.oNe; rw [E.oEqB h]; rfl
theorem En.any (xs : List α) (a : α) : ((xs.map E.py).any fun z => PyData.eqv z (E.py a)) = decide (a ∈ xs) := by
  induction xs with
  | nil => simp
  | cons x r ih =>
    simp only [List.map_cons, List.any_cons, ih, E.eqv]
    rw [Bool.eq_iff_iff]
    simp only [Bool.or_eq_true, decide_eq_true_eq, List.mem_cons]
    exact or_congr ⟨Eq.symm, Eq.symm⟩ Iff.rfl
theorem En.oInB_l (h : E.dep + 1 ≤ 64) (a : α) (xs : List α) : oInB (E.d a) (.lst (xs.map E.d)) = some (decide (a ∈ xs)) := by
  unfold Pu.oInB
  have e : (D.lst (xs.map E.d)).py = some (.list (xs.map E.py)) := E.lst.is xs
  rw [E.is a, e]
  have s2 : SeqAt.shaped (.list (xs.map E.py)) = true := En.shaped (E := E.lst) h xs
  simp only [En.shaped (E := E) (by omega) a, s2, Bool.and_self, if_true, E.any]
theorem En.oInB_t (h : E.dep + 1 ≤ 64) (a : α) (xs : List α) : oInB (E.d a) (.tup (xs.map E.d)) = some (decide (a ∈ xs)) := by
  unfold Pu.oInB
  have e : (D.tup (xs.map E.d)).py = some (.tuple (xs.map E.py)) := E.tup.is xs
  rw [E.is a, e]
  have s2 : SeqAt.shaped (.tuple (xs.map E.py)) = true := En.shaped (E := E.tup) h xs
  simp only [En.shaped (E := E) (by omega) a, s2, Bool.and_self, if_true, E.any]
end
@[simp] theorem oEq_int (i j : Int) : oEq (.int i) (.int j) = some (.bl (decide (i = j))) := En.oEq (E := .int) (by decide) i j
@[simp] theorem oNe_int (i j : Int) : oNe (.int i) (.int j) = some (.bl (!decide (i = j))) := En.oNe (E := .int) (by decide) i j

/-! ### lists and tuples -/
def D.seq? : D → Option (List D)
  | .lst xs => some xs
  | .tup xs => some xs
  | .tux xs => some xs
  | _ => none
@[simp] theorem seq_lst (xs : List D) : (D.lst xs).seq? = some xs := rfl
@[simp] theorem seq_tup (xs : List D) : (D.tup xs).seq? = some xs := rfl
@[simp] theorem seq_tux (xs : List D) : (D.tux xs).seq? = some xs := rfl
def ixD (n : Nat) (i : Int) : Option Nat := if 0 ≤ i then (if i < n then some i.toNat else none) else if -(n : Int) ≤ i then some (i + n).toNat else none
def atD (xs : List D) (i : Int) : Option D := (ixD xs.length i).bind fun j => xs[j]?
/-- xs[i] -/
def oIx : D → D → Option D
  | .lst xs, .int i => atD xs i
  | .tup xs, .int i => atD xs i
  | .tux xs, .int i => atD xs i
  | .scr ns, .int i => (ixD ns.length i).bind fun j => (ns[j]?).map .int
  | _, _ => none
theorem atD_nat {xs : List D} {j : Nat} {d : D} (h : xs[j]? = some d) : atD xs (j : Int) = some d := by
  have hl : j < xs.length := (List.getElem?_eq_some_iff.mp h).1
  unfold atD ixD
  rw [if_pos (Int.natCast_nonneg j), if_pos (by omega)]
  simpa using h
theorem atD_last {xs : List D} {d : D} (h : xs.getLast? = some d) : atD xs (-1) = some d := by
  have hn : xs ≠ [] := by intro e; rw [e] at h; cases h
  have hl : 0 < xs.length := List.length_pos_iff.mpr hn
  unfold atD ixD
  rw [if_neg (by decide), if_pos (by omega)]
  show xs[((-1 : Int) + xs.length).toNat]? = _
  rw [show ((-1 : Int) + xs.length).toNat = xs.length - 1 by omega]
  rwa [← List.getLast?_eq_getElem?]
/-- a new tuple -/
def oTup (xs : List D) : Option D := if xs.length ≤ line then some (.tup xs) else none
def oLst (xs : List D) : Option (List D) := if xs.length ≤ line then some xs else none
def oLen : List D → Option D
  | [.lst xs] => some (.int xs.length)
  | [.tup xs] => some (.int xs.length)
  | [.tux xs] => some (.int xs.length)
  | [.scr xs] => some (.int xs.length)
  | _ => none
def oInt1 : List D → Option D
  | [.int i] => some (.int i)
  | [.bl k] => some (.int (if k then 1 else 0))
  | _ => none
def oAbs : List D → Option D
  | [.int i] => some (.int (if i < 0 then -i else i))
  | _ => none
def oMin2 : List D → Option D
  | [.int i, .int j] => some (.int (if j < i then j else i))
  | _ => none
def oMax2 : List D → Option D
  | [.int i, .int j] => some (.int (if j > i then j else i))
  | _ => none
/-- tuple + tuple -/
def oCatT : D → D → Option D
  | .tup xs, .tup ys => if xs.length + ys.length ≤ line then some (.tup (xs ++ ys)) else none
  | _, _ => none
/-- list + list -/
def oCatL : List D → Option (List D)
  | [.lst xs, .lst ys] => if xs.length + ys.length ≤ line then some (xs ++ ys) else none
  | _ => none
def oListOf : List D → Option (List D)
  | [.lst xs] => some xs
  | [.tup xs] => some xs
  | [.tux xs] => some xs
  | _ => none
def oTupleOf : List D → Option D
  | [.lst xs] => some (.tup xs)
  | [.tup xs] => some (.tup xs)
  | [.tux xs] => some (.tux xs)
  | _ => none
/-- tuple(xs) of a list, its object known -/
def oTupleX : List D → Option D
  | [.lst xs] => some (.tux xs)
  | _ => none
/-- the bounds of a slice -/
def sIxD (n d : Nat) : Option Int → Nat
  | none => d
  | some i => if i < 0 then (i + (n : Int)).toNat else min i.toNat n
def cutD (xs : List D) (lo hi : Option Int) : List D := (xs.drop (sIxD xs.length 0 lo)).take (sIxD xs.length xs.length hi - sIxD xs.length 0 lo)
def oSlT (x : D) (lo hi : Option Int) : Option D := match x with
  | .tup xs => some (.tup (cutD xs lo hi))
  | .tux xs => if sIxD xs.length 0 lo = 0 ∧ sIxD xs.length xs.length hi = xs.length then none else some (.tup (cutD xs lo hi))
  | _ => none
def oSlL (x : D) (lo hi : Option Int) : Option (List D) := match x with
  | .lst xs => some (cutD xs lo hi)
  | _ => none
def oRev : D → Option (List D)
  | .lst xs => some xs.reverse
  | _ => none
/-- the ints lo, lo + 1, .. -/
def rng (lo : Int) (n : Nat) : List D := (List.range n).map fun i : Nat => .int (lo + (i : Int))
def okR (i : Int) : Bool := decide (-(2 ^ 62) ≤ i ∧ i < 2 ^ 62)
def oRange : List D → Option (List D)
  | [.int j] => if okR j && decide (j.toNat ≤ line) then some (rng 0 j.toNat) else none
  | [.int i, .int j] => if okR i && okR j && decide ((j - i).toNat ≤ line) then some (rng i (j - i).toNat) else none
  | _ => none
/-- a op b op' c -/
def pChain (g g' : D → D → Option D) (a b c : PE') : PE' := fun ρ => (a ρ).bind fun x => (b ρ).bind fun y => (OP.of (g x y)).bind fun z => match z with
  | .bl true => (c ρ).bind fun w => .of (g' y w)
  | .bl false => .ok (.bl false)
  | _ => .stuck
/-- and, or, not as values: True, False -/
def vAnd (a b : PE') : PE' := fun ρ => (a ρ).bind fun x => match x with
  | .bl true => b ρ
  | .bl false => .ok (.bl false)
  | _ => .stuck
def vOr (a b : PE') : PE' := fun ρ => (a ρ).bind fun x => match x with
  | .bl true => .ok (.bl true)
  | .bl false => b ρ
  | _ => .stuck
def vNot (a : PE') : PE' := fun ρ => (a ρ).bind fun x => match x with
  | .bl b => .ok (.bl (!b))
  | _ => .stuck
/-- (a, b, ..), [a, b, ..] -/
def nTup (as : List PE') : PE' := pN (fun xs => if xs.length ≤ line then some (.tup xs) else none) as
def nLst (as : List PE') : PF' := fN (fun xs => if xs.length ≤ line then some xs else none) as
def D.fld (f : Str) : D → Option D
  | .obj _ ns vs => if ns.length = vs.length then (ns.zip vs).lookup f else none
  | _ => none
end Pu

namespace Pu
open PySem
/-! ### sorting -/
def insS {α : Type} (lt : α → α → Bool) (x : α) : List α → List α
  | [] => [x]
  | y :: r => if lt y x then y :: insS lt x r else x :: y :: r
def srt {α : Type} (lt : α → α → Bool) : List α → List α
  | [] => []
  | x :: r => insS lt x (srt lt r)
/-- tuples of ints in Python's order -/
def lexI : List Int → List Int → Bool
  | x :: xs, y :: ys => if x = y then lexI xs ys else decide (x < y)
  | [], _ :: _ => true
  | _, [] => false
def ltI (a b : Int) : Bool := decide (a < b)
section
variable {α : Type} {lt : α → α → Bool}
/-- a total order, strictly -/
structure TotO (lt : α → α → Bool) : Prop where
  asym : ∀ x y, lt x y = true → lt y x = false
  tr : ∀ x y z, lt y x = false → lt z y = false → lt z x = false
  anti : ∀ x y, lt x y = false → lt y x = false → x = y
theorem insS_perm (x : α) : ∀ l, (insS lt x l).Perm (x :: l)
  | [] => .refl _
  | y :: r => by
    unfold insS
    split
    · exact ((insS_perm x r).cons y).trans (.swap x y r)
    · exact .refl _
theorem srt_perm : ∀ l, (srt lt l).Perm l
  | [] => .refl _
  | x :: r => (insS_perm x _).trans ((srt_perm r).cons x)
theorem insS_sorted (O : TotO lt) (x : α) : ∀ l, l.Pairwise (fun a b => lt b a = false) → (insS lt x l).Pairwise (fun a b => lt b a = false)
  | [], _ => List.pairwise_singleton _ _
  | y :: r, h => by
    obtain ⟨h1, h2⟩ := List.pairwise_cons.mp h
    unfold insS
    split
    · rename_i c
      refine List.pairwise_cons.mpr ⟨fun z hz => ?_, insS_sorted O x r h2⟩
      rcases List.mem_cons.mp ((insS_perm x r).mem_iff.mp hz) with e | hz
      · rw [e]; exact O.asym _ _ c
      · exact h1 z hz
    · rename_i c
      have c' : lt y x = false := by simpa using c
      refine List.pairwise_cons.mpr ⟨fun z hz => ?_, h⟩
      rcases List.mem_cons.mp hz with e | hz
      · rw [e]; exact c'
      · exact O.tr x y z c' (h1 z hz)
theorem srt_sorted (O : TotO lt) : ∀ l, (srt lt l).Pairwise (fun a b => lt b a = false)
  | [] => .nil
  | x :: r => insS_sorted O x _ (srt_sorted O r)
theorem sorted_uniq (O : TotO lt) : ∀ {l m : List α}, l.Pairwise (fun a b => lt b a = false) → m.Pairwise (fun a b => lt b a = false) → l.Perm m → l = m
  | [], m, _, _, p => p.symm.eq_nil.symm
  | x :: l, [], _, _, p => absurd p.eq_nil (by simp)
  | x :: l, y :: m, h1, h2, p => by
    obtain ⟨a1, a2⟩ := List.pairwise_cons.mp h1
    obtain ⟨b1, b2⟩ := List.pairwise_cons.mp h2
    have refl : ∀ z, lt z z = false := fun z => by
      cases q : lt z z with
      | false => rfl
      | true => have := O.asym z z q; rw [q] at this; cases this
    have e : x = y := by
      have hx : x ∈ y :: m := p.mem_iff.mp List.mem_cons_self
      have hy : y ∈ x :: l := p.mem_iff.mpr List.mem_cons_self
      have c1 : lt y x = false := by
        rcases List.mem_cons.mp hy with e | q
        · rw [e]; exact refl x
        · exact a1 y q
      have c2 : lt x y = false := by
        rcases List.mem_cons.mp hx with e | q
        · rw [e]; exact refl y
        · exact b1 x q
      exact O.anti x y c2 c1
    subst e
    rw [sorted_uniq O a2 b2 p.cons_inv]
theorem srt_uniq (O : TotO lt) {l m : List α} (h : m.Pairwise (fun a b => lt b a = false)) (p : m.Perm l) : m = srt lt l :=
  sorted_uniq O h (srt_sorted O l) (p.trans (srt_perm l).symm)
theorem srt_id (O : TotO lt) {l : List α} (h : l.Pairwise (fun a b => lt b a = false)) : srt lt l = l := (srt_uniq O h (.refl l)).symm
theorem srt_of_perm (O : TotO lt) {l m : List α} (p : l.Perm m) : srt lt l = srt lt m := srt_uniq O (srt_sorted O l) ((srt_perm l).trans p)
end
theorem ltI_tot : TotO ltI := by
  refine ⟨fun x y h => ?_, fun x y z h1 h2 => ?_, fun x y h1 h2 => ?_⟩
  · have := of_decide_eq_true h
    exact decide_eq_false (by omega)
  · have := of_decide_eq_false h1
    have := of_decide_eq_false h2
    exact decide_eq_false (by omega)
  · have := of_decide_eq_false h1
    have := of_decide_eq_false h2
    omega
theorem lexI_asym : ∀ xs ys, lexI xs ys = true → lexI ys xs = false
  | [], [], h => by cases h
  | [], _ :: _, _ => rfl
  | _ :: _, [], h => by cases h
  | x :: xs, y :: ys, h => by
    unfold lexI at h ⊢
    by_cases e : x = y
    · rw [if_pos e] at h
      rw [if_pos e.symm]
      exact lexI_asym xs ys h
    · rw [if_neg e] at h
      rw [if_neg (Ne.symm e)]
      have := of_decide_eq_true h
      exact decide_eq_false (by omega)
theorem lexI_tr : ∀ xs ys zs, lexI ys xs = false → lexI zs ys = false → lexI zs xs = false
  | [], _, [], _, _ => rfl
  | [], [], _ :: _, _, _ => rfl
  | [], _ :: _, _ :: _, _, _ => rfl
  | _ :: _, [], _, h, _ => by cases h
  | x :: xs, y :: ys, [], _, h => by cases h
  | x :: xs, y :: ys, z :: zs, h1, h2 => by
    unfold lexI at h1 h2 ⊢
    by_cases e1 : y = x
    · subst e1
      rw [if_pos rfl] at h1
      by_cases e2 : z = y
      · rw [if_pos e2] at h2 ⊢
        exact lexI_tr xs ys zs h1 h2
      · rw [if_neg e2] at h2 ⊢; exact h2
    · rw [if_neg e1] at h1
      have a := of_decide_eq_false h1
      by_cases e2 : z = y
      · subst e2
        rw [if_neg e1]
        exact h1
      · rw [if_neg e2] at h2
        have b := of_decide_eq_false h2
        rw [if_neg (by omega)]
        exact decide_eq_false (by omega)
theorem lexI_anti : ∀ xs ys, lexI xs ys = false → lexI ys xs = false → xs = ys
  | [], [], _, _ => rfl
  | [], _ :: _, h, _ => by cases h
  | _ :: _, [], _, h => by cases h
  | x :: xs, y :: ys, h1, h2 => by
    unfold lexI at h1 h2
    by_cases e : x = y
    · subst e
      rw [if_pos rfl] at h1 h2
      rw [lexI_anti xs ys h1 h2]
    · rw [if_neg e] at h1
      rw [if_neg (Ne.symm e)] at h2
      have := of_decide_eq_false h1
      have := of_decide_eq_false h2
      omega
theorem lexI_tot : TotO lexI := ⟨lexI_asym, lexI_tr, lexI_anti⟩
def D.ints : List D → Option (List Int)
  | [] => some []
  | .int i :: r => (D.ints r).map fun l => i :: l
  | _ => none
def D.tupsI : List D → Option (List (List Int))
  | [] => some []
  | .tup xs :: r => (D.ints xs).bind fun t => if t = [] then none else (D.tupsI r).map fun l => t :: l
  | _ => none
def dTI (t : List Int) : D := .tup (t.map .int)
theorem ints_map : ∀ ns : List Int, D.ints (ns.map D.int) = some ns
  | [] => rfl
  | n :: r => by show (D.ints (r.map D.int)).map _ = _; rw [ints_map r]; rfl
theorem ints_some : ∀ {ds : List D} {ns : List Int}, D.ints ds = some ns → ds = ns.map D.int
  | [], ns, h => by cases h; rfl
  | d :: r, ns, h => by
    cases d with
    | int i =>
      obtain ⟨l, e, rfl⟩ := Option.map_eq_some_iff.mp (show (D.ints r).map _ = some ns from h)
      rw [ints_some e]; rfl
    | _ => cases h
theorem tups_map : ∀ {ts : List (List Int)}, (∀ t ∈ ts, t ≠ []) → D.tupsI (ts.map dTI) = some ts
  | [], _ => rfl
  | t :: r, h => by
    show (D.ints (t.map D.int)).bind _ = _
    rw [ints_map t]
    show (if t = [] then none else _) = _
    rw [if_neg (h t List.mem_cons_self), tups_map fun x hx => h x (List.mem_cons_of_mem _ hx)]; rfl
theorem tups_some : ∀ {ds : List D} {ts : List (List Int)}, D.tupsI ds = some ts → ds = ts.map dTI ∧ ∀ t ∈ ts, t ≠ []
  | [], ts, h => by cases h; exact ⟨rfl, fun t ht => by cases ht⟩
  | d :: r, ts, h => by
    cases d with
    | tup xs =>
      obtain ⟨t, e1, e2⟩ := Option.bind_eq_some_iff.mp (show (D.ints xs).bind _ = some ts from h)
      by_cases c : t = []
      · rw [if_pos c] at e2; cases e2
      · rw [if_neg c] at e2
        obtain ⟨l, e3, rfl⟩ := Option.map_eq_some_iff.mp e2
        obtain ⟨a, b⟩ := tups_some e3
        refine ⟨by rw [a, ints_some e1]; rfl, fun u hu => ?_⟩
        rcases List.mem_cons.mp hu with e | hu
        · rw [e]; exact c
        · exact b u hu
    | _ => cases h
/-- sorted(xs): ints, or tuples of ints that are not empty -/
def sortD (xs : List D) : Option (List D) := match D.ints xs with
  | some ns => some ((srt ltI ns).map D.int)
  | none => (D.tupsI xs).map fun ts => (srt lexI ts).map dTI
def oSorted : List D → Option (List D)
  | [.lst xs] => sortD xs
  | [.tup xs] => sortD xs
  | [.tux xs] => sortD xs
  | _ => none
theorem sortD_ints (ns : List Int) : sortD (ns.map D.int) = some ((srt ltI ns).map D.int) := by
  unfold sortD; rw [ints_map]
theorem sortD_tups {ts : List (List Int)} (h : ∀ t ∈ ts, t ≠ []) : sortD (ts.map dTI) = some ((srt lexI ts).map dTI) := by
  unfold sortD
  cases ts with
  | nil => rfl
  | cons t r =>
    have e : D.ints ((t :: r).map dTI) = none := rfl
    rw [e, tups_map h]; rfl
/-- len(set(xs)), xs ints -/
def oLenSet : List D → Option D
  | [.lst xs] => (D.ints xs).bind fun ns => if ns.Nodup ∧ ns.length ≤ 4000 then some (.int ns.length) else none
  | [.tup xs] => (D.ints xs).bind fun ns => if ns.Nodup ∧ ns.length ≤ 4000 then some (.int ns.length) else none
  | _ => none
/-- min, max of ints -/
def mn : List Int → Option Int
  | [] => none
  | x :: r => some (r.foldl min x)
def oMinL : List D → Option D
  | [.lst xs] => (D.ints xs).bind fun ns => (mn ns).map .int
  | _ => none
def oSum : List D → Option D
  | [.lst xs] => (D.ints xs).map fun ns => .int ns.sum
  | _ => none
/-- isinstance(x, T) -/
inductive Ty where
  | int | bool | str | list | tuple
def tyIs : Ty → D → Option Bool
  | .int, .int _ => some true
  | .int, .bl _ => some true
  | .bool, .bl _ => some true
  | .str, .str _ => some true
  | .list, .lst _ => some true
  | .tuple, .tup _ => some true
  | .tuple, .tux _ => some true
  | _, .non => some false
  | _, .bl _ => some false
  | _, .int _ => some false
  | _, .str _ => some false
  | _, .lst _ => some false
  | _, .tup _ => some false
  | _, .tux _ => some false
  | _, .obj _ _ _ => none
  | _, .scr _ => none
def oIs (t : Ty) (d : D) : Option D := (tyIs t d).map .bl
/-- isinstance(x, C), C a class of the program -/
def oIsC (C : Nat) : D → Option D
  | .obj C' _ _ => if C' = C then some (.bl true) else none
  | _ => none
/-- x.index(y), ints -/
def oIndex : D → D → Option D
  | .lst xs, .int i => (D.ints xs).bind fun ns => if i ∈ ns then some (.int (ns.idxOf i)) else none
  | .tux xs, .int i => (D.ints xs).bind fun ns => if i ∈ ns then some (.int (ns.idxOf i)) else none
  | _, _ => none
/-! ### dicts whose keys are tuples of ints -/
def kvGet (kvs : List (List PKey × D)) (k : List PKey) : Option D := (kvs.find? fun kv => decide (kv.1 = k)).map (·.2)
def kvPut (kvs : List (List PKey × D)) (k : List PKey) (v : D) : List (List PKey × D) :=
  if (kvs.any fun kv => decide (kv.1 = k)) = true then kvs.map (fun kv => if kv.1 = k then (kv.1, v) else kv) else kvs ++ [(k, v)]
def D.key : D → Option (List PKey)
  | .tup xs => (D.ints xs).map fun ns => ns.map Sum.inl
  | _ => none
/-- x = {} -/
def sNewD (i : Nat) : SS := fun ρ => .nx (ρ.set i (.md []))
/-- k in d -/
def pInD (i : Nat) (a : PE') : PE' := fun ρ => (a ρ).bind fun x => match ρ[i]? with
  | some (.md kvs) => .of (x.key.map fun k => .bl (kvGet kvs k).isSome)
  | _ => .stuck
/-- d[k] = v -/
def sPutD (i : Nat) (k v : PE') : SS := fun ρ => opS (v ρ) ρ fun y => match ρ[i]? with
  | some (.md kvs) => opS (k ρ) ρ fun x => (match x.key with
    | some kk => if kvs.length < line then .nx (ρ.set i (.md (kvPut kvs kk y))) else .stuck
    | none => .stuck)
  | _ => .stuck
def keyI : List PKey → Option (List Int)
  | [] => some []
  | .inl n :: r => (keyI r).map fun l => n :: l
  | .inr _ :: _ => none
def keysI : List (List PKey × D) → Option (List (List Int))
  | [] => some []
  | p :: r => (keyI p.1).bind fun t => if t = [] then none else (keysI r).map fun l => t :: l
theorem keyI_some : ∀ {k : List PKey} {t : List Int}, keyI k = some t → k = t.map Sum.inl
  | [], t, h => by cases h; rfl
  | .inl n :: r, t, h => by
    obtain ⟨l, e, rfl⟩ := Option.map_eq_some_iff.mp (show (keyI r).map _ = some t from h)
    rw [keyI_some e]; rfl
  | .inr _ :: _, t, h => by cases h
theorem keyI_map : ∀ t : List Int, keyI (t.map Sum.inl) = some t
  | [] => rfl
  | n :: r => by show (keyI (r.map Sum.inl)).map _ = _; rw [keyI_map r]; rfl
theorem keysI_some : ∀ {kvs : List (List PKey × D)} {ts : List (List Int)}, keysI kvs = some ts → kvs.map (·.1) = ts.map (fun t => t.map Sum.inl) ∧ ∀ t ∈ ts, t ≠ []
  | [], ts, h => by cases h; exact ⟨rfl, fun t ht => by cases ht⟩
  | p :: r, ts, h => by
    obtain ⟨t, e1, e2⟩ := Option.bind_eq_some_iff.mp (show (keyI p.1).bind _ = some ts from h)
    by_cases c : t = []
    · rw [if_pos c] at e2; cases e2
    · rw [if_neg c] at e2
      obtain ⟨l, e3, rfl⟩ := Option.map_eq_some_iff.mp e2
      obtain ⟨a, b⟩ := keysI_some e3
      refine ⟨by rw [List.map_cons, List.map_cons, a, keyI_some e1], fun u hu => ?_⟩
      rcases List.mem_cons.mp hu with e | hu
      · rw [e]; exact c
      · exact b u hu
/-- sorted(d) -/
def fSortD (i : Nat) : PF' := fun ρ => match ρ[i]? with
  | some (S.md kvs) => OP.of ((keysI kvs).map fun ts => (srt lexI ts).map dTI)
  | _ => .stuck
end Pu
end
section
/-! Pu, the layer: the functions on slots are what the program does. -/
namespace Pu
open PySem PySem.Spec L2
open PyProof.Rows hiding St

/-! ### data in a heap -/
section
variable (K : PySem.W.Frag) (G : Hp)
mutual
def Dat : D → V → Prop
  | .non, v => v = .non
  | .bl b, v => v = .bl b
  | .int i, v => v = .int i
  | .str s, v => v = .str s
  | .lst ds, v => ∃ a vs, v = .ref a ∧ G a = some (.lst vs) ∧ Dats ds vs ∧ ds.length ≤ line
  | .tup ds, v => ∃ a vs, v = .ref a ∧ G a = some (.tup vs) ∧ Dats ds vs ∧ ds.length ≤ line
  | .tux ds, v => ∃ a o vs, v = .ref a ∧ G a = some (.frz o (.tup vs)) ∧ o.dict = none ∧ Dats ds vs ∧ ds.length ≤ line
  | .scr ns, v => ∃ a, v = .ref a ∧ SqL K G a (ns.map V.int)
  | .obj C ns ds, v => ∃ a dx vs, v = .ref a ∧ G a = some (.ins C dx (ns.zip vs)) ∧ ns.length = ds.length ∧ Dats ds vs
def Dats : List D → List V → Prop
  | [], vs => vs = []
  | d :: ds, vs => ∃ v r, vs = v :: r ∧ Dat d v ∧ Dats ds r
end
end
theorem Same.seqT {K : PySem.W.Frag} {H H' : Hp} {a : Addr} {xs : List V} (e : Same H H') (h : SqT K H a xs) : SqT K H' a xs := by
  rcases h with (h | ⟨o, h⟩) | h
  · exact .inl (.inl (e _ _ h))
  · exact .inl (.inr ⟨o, e _ _ h⟩)
  · exact .inr h
section
variable {K : PySem.W.Frag} {G G' : Hp}
mutual
theorem Dat.mono (s : Same G G') : ∀ {d : D} {v : V}, Dat K G d v → Dat K G' d v
  | .non, v, h => by unfold Dat at h ⊢; exact h
  | .bl b, v, h => by unfold Dat at h ⊢; exact h
  | .int i, v, h => by unfold Dat at h ⊢; exact h
  | .str x, v, h => by unfold Dat at h ⊢; exact h
  | .lst ds, v, h => by
    unfold Dat at h ⊢
    obtain ⟨a, vs, e, q, r, l⟩ := h
    exact ⟨a, vs, e, s _ _ q, Dats.mono s r, l⟩
  | .tup ds, v, h => by
    unfold Dat at h ⊢
    obtain ⟨a, vs, e, q, r, l⟩ := h
    exact ⟨a, vs, e, s _ _ q, Dats.mono s r, l⟩
  | .tux ds, v, h => by
    unfold Dat at h ⊢
    obtain ⟨a, o, vs, e, q, z, r, l⟩ := h
    exact ⟨a, o, vs, e, s _ _ q, z, Dats.mono s r, l⟩
  | .scr ns, v, h => by
    unfold Dat at h ⊢
    obtain ⟨a, e, q⟩ := h
    exact ⟨a, e, s.seq q⟩
  | .obj C ns ds, v, h => by
    unfold Dat at h ⊢
    obtain ⟨a, dx, vs, e, q, l, r⟩ := h
    exact ⟨a, dx, vs, e, s _ _ q, l, Dats.mono s r⟩
theorem Dats.mono (s : Same G G') : ∀ {ds : List D} {vs : List V}, Dats K G ds vs → Dats K G' ds vs
  | [], vs, h => by unfold Dats at h ⊢; exact h
  | d :: ds, vs, h => by
    unfold Dats at h ⊢
    obtain ⟨v, r, e, h1, h2⟩ := h
    exact ⟨v, r, e, Dat.mono s h1, Dats.mono s h2⟩
end
theorem Dats.nil : Dats K G [] [] := by unfold Dats; rfl
theorem Dats.cons {d : D} {v : V} {ds : List D} {vs : List V} (h : Dat K G d v) (r : Dats K G ds vs) : Dats K G (d :: ds) (v :: vs) := by
  unfold Dats; exact ⟨v, vs, rfl, h, r⟩
theorem Dats.nil_inv {vs : List V} (h : Dats K G [] vs) : vs = [] := by unfold Dats at h; exact h
theorem Dats.cons_inv {d : D} {ds : List D} {vs : List V} (h : Dats K G (d :: ds) vs) : ∃ v r, vs = v :: r ∧ Dat K G d v ∧ Dats K G ds r := by
  unfold Dats at h; exact h
theorem Dats.len : ∀ {ds : List D} {vs : List V}, Dats K G ds vs → ds.length = vs.length
  | [], vs, h => by rw [h.nil_inv]; rfl
  | d :: ds, vs, h => by
    obtain ⟨v, r, rfl, _, h2⟩ := h.cons_inv
    rw [List.length_cons, List.length_cons, h2.len]
theorem Dats.get : ∀ {ds : List D} {vs : List V} {i : Nat} {d : D}, Dats K G ds vs → ds[i]? = some d → ∃ v, vs[i]? = some v ∧ Dat K G d v
  | [], vs, i, d, h, e => by simp at e
  | d' :: ds, vs, 0, d, h, e => by
    obtain ⟨v, r, rfl, h1, h2⟩ := h.cons_inv
    simp at e; subst e
    exact ⟨v, rfl, h1⟩
  | d' :: ds, vs, i + 1, d, h, e => by
    obtain ⟨v, r, rfl, h1, h2⟩ := h.cons_inv
    simp at e
    obtain ⟨w, e1, e2⟩ := Dats.get (i := i) h2 e
    exact ⟨w, by simpa using e1, e2⟩
theorem Dats.at : ∀ {ds : List D} {vs : List V} {i : Nat} {v : V}, Dats K G ds vs → vs[i]? = some v → ∃ d, ds[i]? = some d ∧ Dat K G d v
  | [], vs, i, v, h, e => by rw [h.nil_inv] at e; simp at e
  | d' :: ds, vs, 0, v, h, e => by
    obtain ⟨w, r, rfl, h1, h2⟩ := h.cons_inv
    simp at e; subst e
    exact ⟨d', rfl, h1⟩
  | d' :: ds, vs, i + 1, v, h, e => by
    obtain ⟨w, r, rfl, h1, h2⟩ := h.cons_inv
    simp at e
    obtain ⟨d, e1, e2⟩ := Dats.at (i := i) h2 e
    exact ⟨d, by simpa using e1, e2⟩
theorem Dats.append : ∀ {ds es : List D} {vs ws : List V}, Dats K G ds vs → Dats K G es ws → Dats K G (ds ++ es) (vs ++ ws)
  | [], es, vs, ws, h, q => by rw [h.nil_inv]; exact q
  | d :: ds, es, vs, ws, h, q => by
    obtain ⟨v, r, rfl, h1, h2⟩ := h.cons_inv
    exact .cons h1 (h2.append q)
theorem Dats.take : ∀ {ds : List D} {vs : List V} (n : Nat), Dats K G ds vs → Dats K G (ds.take n) (vs.take n)
  | _, _, 0, _ => by simpa using Dats.nil
  | [], vs, n + 1, h => by rw [h.nil_inv]; exact Dats.nil
  | d :: ds, vs, n + 1, h => by
    obtain ⟨v, r, rfl, h1, h2⟩ := h.cons_inv
    exact .cons h1 (h2.take n)
theorem Dats.drop : ∀ {ds : List D} {vs : List V} (n : Nat), Dats K G ds vs → Dats K G (ds.drop n) (vs.drop n)
  | _, _, 0, h => h
  | [], vs, n + 1, h => by rw [h.nil_inv]; exact Dats.nil
  | d :: ds, vs, n + 1, h => by
    obtain ⟨v, r, rfl, h1, h2⟩ := h.cons_inv
    exact h2.drop n
theorem Dats.reverse : ∀ {ds : List D} {vs : List V}, Dats K G ds vs → Dats K G ds.reverse vs.reverse
  | [], vs, h => by rw [h.nil_inv]; exact Dats.nil
  | d :: ds, vs, h => by
    obtain ⟨v, r, rfl, h1, h2⟩ := h.cons_inv
    rw [List.reverse_cons, List.reverse_cons]
    exact h2.reverse.append (.cons h1 .nil)
theorem Dats.set : ∀ {ds : List D} {vs : List V} {d : D} {v : V} (n : Nat), Dats K G ds vs → Dat K G d v → Dats K G (ds.set n d) (vs.set n v)
  | [], vs, d, v, n, h, q => by rw [h.nil_inv]; simpa using Dats.nil
  | d' :: ds, vs, d, v, 0, h, q => by
    obtain ⟨w, r, rfl, h1, h2⟩ := h.cons_inv
    exact .cons q h2
  | d' :: ds, vs, d, v, n + 1, h, q => by
    obtain ⟨w, r, rfl, h1, h2⟩ := h.cons_inv
    exact .cons h1 (h2.set n q)
theorem Dats.eraseIdx : ∀ {ds : List D} {vs : List V} (n : Nat), Dats K G ds vs → Dats K G (ds.eraseIdx n) (vs.eraseIdx n)
  | [], vs, n, h => by rw [h.nil_inv]; exact Dats.nil
  | d' :: ds, vs, 0, h => by
    obtain ⟨w, r, rfl, h1, h2⟩ := h.cons_inv
    exact h2
  | d' :: ds, vs, n + 1, h => by
    obtain ⟨w, r, rfl, h1, h2⟩ := h.cons_inv
    exact .cons h1 (h2.eraseIdx n)
theorem Dat.int_iff {i : Int} {v : V} : Dat K G (.int i) v ↔ v = .int i := by unfold Dat; exact Iff.rfl
theorem Dat.bl_iff {i : Bool} {v : V} : Dat K G (.bl i) v ↔ v = .bl i := by unfold Dat; exact Iff.rfl
theorem Dat.str_iff {i : Str} {v : V} : Dat K G (.str i) v ↔ v = .str i := by unfold Dat; exact Iff.rfl
theorem Dat.non_iff {v : V} : Dat K G .non v ↔ v = .non := by unfold Dat; exact Iff.rfl
theorem Dat.lst_iff {ds : List D} {v : V} : Dat K G (.lst ds) v ↔ ∃ a vs, v = .ref a ∧ G a = some (.lst vs) ∧ Dats K G ds vs ∧ ds.length ≤ line := by
  constructor
  · intro h; unfold Dat at h; exact h
  · intro h; unfold Dat; exact h
theorem Dat.tup_iff {ds : List D} {v : V} : Dat K G (.tup ds) v ↔ ∃ a vs, v = .ref a ∧ G a = some (.tup vs) ∧ Dats K G ds vs ∧ ds.length ≤ line := by
  constructor
  · intro h; unfold Dat at h; exact h
  · intro h; unfold Dat; exact h
theorem Dat.tux_iff {ds : List D} {v : V} : Dat K G (.tux ds) v ↔ ∃ a o vs, v = .ref a ∧ G a = some (.frz o (.tup vs)) ∧ o.dict = none ∧ Dats K G ds vs ∧ ds.length ≤ line := by
  constructor
  · intro h; unfold Dat at h; exact h
  · intro h; unfold Dat; exact h
theorem Dat.scr_iff {ns : List Int} {v : V} : Dat K G (.scr ns) v ↔ ∃ a, v = .ref a ∧ SqL K G a (ns.map V.int) := by
  constructor
  · intro h; unfold Dat at h; exact h
  · intro h; unfold Dat; exact h
theorem Dat.obj_iff {C : Nat} {ns : List Str} {ds : List D} {v : V} : Dat K G (.obj C ns ds) v ↔ ∃ a dx vs, v = .ref a ∧ G a = some (.ins C dx (ns.zip vs)) ∧ ns.length = ds.length ∧ Dats K G ds vs := by
  constructor
  · intro h; unfold Dat at h; exact h
  · intro h; unfold Dat; exact h
theorem Dats.ints : ∀ {ns : List Int} {vs : List V}, Dats K G (ns.map D.int) vs → vs = ns.map V.int
  | [], vs, h => h.nil_inv
  | n :: ns, vs, h => by
    obtain ⟨v, r, rfl, h1, h2⟩ := h.cons_inv
    rw [Dat.int_iff.mp h1, h2.ints]; rfl
theorem Dats.of_ints : ∀ (ns : List Int), Dats K G (ns.map D.int) (ns.map V.int)
  | [] => .nil
  | n :: ns => .cons (Dat.int_iff.mpr rfl) (Dats.of_ints ns)
theorem Dat.flat_mono {d : D} (f : d.flat = true) {v : V} (h : Dat K G d v) : Dat K G' d v := by
  cases d with
  | non => exact Dat.non_iff.mpr (Dat.non_iff.mp h)
  | bl b => exact Dat.bl_iff.mpr (Dat.bl_iff.mp h)
  | int b => exact Dat.int_iff.mpr (Dat.int_iff.mp h)
  | str b => exact Dat.str_iff.mpr (Dat.str_iff.mp h)
  | _ => cases f
end

/-! ### heaps that grow -/
/-- G: what stands still; H: all -/
structure Ext (G H G' H' : Hp) : Prop where
  g : Same G G'
  h : Same H H'
  sub : Same G' H'
  fr : ∀ a, G' a ≠ none → G a ≠ none ∨ H a = none ∨ ∃ vs, H a = some (.tup vs)
theorem Ext.refl {G H : Hp} (s : Same G H) : Ext G H G H := ⟨Same.refl _, Same.refl _, s, fun a h => .inl h⟩
theorem Ext.trans {G H G1 H1 G2 H2 : Hp} (a : Ext G H G1 H1) (b : Ext G1 H1 G2 H2) : Ext G H G2 H2 :=
  ⟨a.g.trans b.g, a.h.trans b.h, b.sub, fun c h => (b.fr c h).elim (a.fr c) fun h1 => .inr (h1.elim (fun h1 => .inl (a.h.free h1)) fun ⟨vs, e⟩ => by
    cases q : H c with
    | none => exact .inl rfl
    | some o =>
      have := a.h _ _ q
      rw [e] at this
      cases this
      exact .inr ⟨vs, rfl⟩)⟩
theorem same_upd {H : Hp} {p : Addr} {o : HO} (h : H p = none) : Same H (upd H p o) := fun b x e => by
  rw [upd_ne (ne_of_none e h)]; exact e
theorem same_upd2 {G H : Hp} {p : Addr} {o : HO} (s : Same G H) : Same (upd G p o) (upd H p o) := fun b x e => by
  by_cases hb : b = p
  · subst hb; rw [upd_same] at e ⊢; exact e
  · rw [upd_ne hb] at e ⊢; exact s _ _ e
/-- a new object that stands still -/
theorem Ext.new {G H : Hp} {p : Addr} {o : HO} (s : Same G H) (h : H p = none) : Ext G H (upd G p o) (upd H p o) :=
  ⟨same_upd (s.free h), same_upd h, same_upd2 s, fun a q => by
    by_cases e : a = p
    · exact .inr (.inl (e ▸ h))
    · rw [upd_ne e] at q; exact .inl q⟩
/-- a new object that someone holds -/
theorem Ext.own {G H : Hp} {p : Addr} {o : HO} (s : Same G H) (h : H p = none) : Ext G H G (upd H p o) :=
  ⟨Same.refl _, same_upd h, s.trans (same_upd h), fun a q => .inl q⟩
/-- what someone held stands still from now on -/
theorem Ext.fix {G H G' H' : Hp} {p : Addr} {o : HO} (x : Ext G H G' H') (h : H p = none) (q : H' p = some o) : Ext G H (upd G' p o) H' ∧ Same G' (upd G' p o) ∨ G' p ≠ none := by
  by_cases e : G' p = none
  · refine .inl ⟨⟨x.g.trans (same_upd e), x.h, fun b u r => ?_, fun a r => ?_⟩, same_upd e⟩
    · by_cases hb : b = p
      · subst hb; rw [upd_same] at r; cases r; exact q
      · rw [upd_ne hb] at r; exact x.sub _ _ r
    · by_cases hb : a = p
      · exact .inr (.inl (hb ▸ h))
      · rw [upd_ne hb] at r; exact x.fr a r
  · exact .inr e
theorem Ext.fix' {G H G' H' : Hp} {p : Addr} {o : HO} (x : Ext G H G' H') (h : H p = none) (e : G' p = none) (q : H' p = some o) : Ext G H (upd G' p o) H' := by
  refine ⟨x.g.trans (same_upd e), x.h, fun b u r => ?_, fun a r => ?_⟩
  · by_cases hb : b = p
    · subst hb; rw [upd_same] at r; cases r; exact q
    · rw [upd_ne hb] at r; exact x.sub _ _ r
  · by_cases hb : a = p
    · exact .inr (.inl (hb ▸ h))
    · rw [upd_ne hb] at r; exact x.fr a r

/-! ### slots -/
def KVs (K : PySem.W.Frag) (G : Hp) : List (List PKey × D) → List (List Key × V) → Prop
  | [], ws => ws = []
  | (k, d) :: r, ws => ∃ v s, ws = (k, v) :: s ∧ Dat K G d v ∧ KVs K G r s
/-- reading: σ and H are as ρ tells -/
def SlR (K : PySem.W.Frag) (G H : Hp) (o : Option (Option V)) : S → Prop
  | .no => True
  | .im d => ∃ v, o = some (some v) ∧ Dat K G d v
  | .ml xs => ∃ p vs, o = some (some (.ref p)) ∧ H p = some (.lst vs) ∧ G p = none ∧ Dats K G xs vs ∧ xs.length ≤ line
  | .md kvs => ∃ p ws, o = some (some (.ref p)) ∧ H p = some (.dT ws) ∧ G p = none ∧ KVs K G kvs ws
  | .mo C fs => ∃ p dx vs, o = some (some (.ref p)) ∧ H p = some (.ins C dx ((fs.map (·.1)).zip vs)) ∧ G p = none ∧ Dats K G (fs.map (·.2)) vs
  | .ex C ns ds => ∃ a dx vs, o = some (some (.ref a)) ∧ H dx = some (.xd (ns.zip vs)) ∧ Dats K G ds vs
structure RS (K : PySem.W.Frag) (ρ : Rho) (σ : St) (G H : Hp) : Prop where
  len : σ.length = ρ.length
  sub : Same G H
  sl : ∀ (i : Nat) (s : S), ρ[i]? = some s → SlR K G H σ[i]? s
theorem KVs.mono {K : PySem.W.Frag} {G G' : Hp} (s : Same G G') : ∀ {kvs : List (List PKey × D)} {ws : List (List Key × V)}, KVs K G kvs ws → KVs K G' kvs ws
  | [], _, h => h
  | (k, d) :: r, ws, ⟨v, t, e, h1, h2⟩ => ⟨v, t, e, h1.mono s, KVs.mono s h2⟩
theorem SlR.ext {K : PySem.W.Frag} {G H G' H' : Hp} (x : Ext G H G' H') {o : Option (Option V)} {s : S} (h : SlR K G H o s) : SlR K G' H' o s := by
  have nog : ∀ p o, H p = some o → G p = none → (∀ vs, o ≠ .tup vs) → G' p = none := fun p o e n nt => by
    cases q : G' p with
    | none => rfl
    | some u =>
      rcases x.fr p (by rw [q]; simp) with z | z | ⟨vs, z⟩
      · exact absurd n z
      · rw [e] at z; cases z
      · rw [e] at z; cases z; exact absurd rfl (nt vs)
  cases s with
  | no => trivial
  | im d => obtain ⟨v, e, h⟩ := h; exact ⟨v, e, h.mono x.g⟩
  | ml xs => obtain ⟨p, vs, e, h1, h2, h3, h4⟩ := h; exact ⟨p, vs, e, x.h _ _ h1, nog _ _ h1 h2 (by simp), h3.mono x.g, h4⟩
  | md kvs => obtain ⟨p, ws, e, h1, h2, h3⟩ := h; exact ⟨p, ws, e, x.h _ _ h1, nog _ _ h1 h2 (by simp), KVs.mono x.g h3⟩
  | mo C fs => obtain ⟨p, dx, vs, e, h1, h2, h3⟩ := h; exact ⟨p, dx, vs, e, x.h _ _ h1, nog _ _ h1 h2 (by simp), h3.mono x.g⟩
  | ex C ns ds => obtain ⟨a, dx, vs, e, h1, h3⟩ := h; exact ⟨a, dx, vs, e, x.h _ _ h1, h3.mono x.g⟩
theorem RS.ext {K : PySem.W.Frag} {ρ : Rho} {σ : St} {G H G' H' : Hp} (R : RS K ρ σ G H) (x : Ext G H G' H') : RS K ρ σ G' H' :=
  ⟨R.len, x.sub, fun i s e => (R.sl i s e).ext x⟩

/-! ### expressions -/
abbrev RV1 := V → Hp → Prop
/-- what is wanted of an exception: a value, its dict, at the slots -/
def Xc (K : PySem.W.Frag) (W : WX) (σ : St) (G H : Hp) (C : Nat) (ns : List Str) (ds : List D) : Prop :=
  ∀ dx vs G' H', Ext G H G' H' → H' dx = some (.xd (ns.zip vs)) → ns.length = ds.length → Dats K G' ds vs → W (.ref C) (some dx) σ H'
theorem Xc.ext {K : PySem.W.Frag} {W : WX} {σ : St} {G H G1 H1 : Hp} {C : Nat} {ns : List Str} {ds : List D} (x : Ext G H G1 H1) (h : Xc K W σ G H C ns ds) : Xc K W σ G1 H1 C ns ds :=
  fun dx vs G' H' y a b c => h dx vs G' H' (x.trans y) a b c
/-- what is wanted of an outcome -/
def QG {α : Type} (K : PySem.W.Frag) (W : WX) (σ : St) (G H : Hp) (P : α → Hp → Hp → Prop) : OP α → Prop
  | .stuck => False
  | .ok a => ∀ G' H', Ext G H G' H' → P a G' H'
  | .exc C ns ds => Xc K W σ G H C ns ds
section
variable {α β : Type} {K : PySem.W.Frag} {W : WX} {σ : St} {G H G' H' : Hp} {P P' : α → Hp → Hp → Prop} {P2 : β → Hp → Hp → Prop}
theorem QG.ext (x : Ext G H G' H') {o : OP α} (h : QG K W σ G H P o) : QG K W σ G' H' P o := by
  cases o with
  | stuck => exact h
  | ok a => exact fun G2 H2 y => h G2 H2 (x.trans y)
  | exc C ns ds => exact Xc.ext x (show Xc K W σ G H C ns ds from h)
theorem QG.bind {o : OP α} {k : α → OP β} (h : QG K W σ G H P2 (o.bind k)) : QG K W σ G H (fun a G' H' => QG K W σ G' H' P2 (k a)) o := by
  cases o with
  | stuck => exact h
  | ok a => exact fun G2 H2 y => QG.ext y h
  | exc C ns ds => exact h
theorem QG.imp {o : OP α} (h : QG K W σ G H P o) (f : ∀ a G' H', o = .ok a → Ext G H G' H' → P a G' H' → P' a G' H') : QG K W σ G H P' o := by
  cases o with
  | stuck => exact h
  | ok a => exact fun G2 H2 y => f a G2 H2 rfl y (h G2 H2 y)
  | exc C ns ds => exact h
theorem QG.of {o : Option α} (s : Same G H) (h : QG K W σ G H P (OP.of o)) : ∃ a, o = some a ∧ ∀ G' H', Ext G H G' H' → P a G' H' := by
  cases o with
  | none => exact h.elim
  | some a => exact ⟨a, rfl, h⟩
end
/-- data, or a list that someone holds, its items data -/
def Bor (K : PySem.W.Frag) (G H : Hp) (d : D) (v : V) : Prop := Dat K G d v ∨ ∃ p vs xs, d = .lst xs ∧ v = .ref p ∧ H p = some (.lst vs) ∧ Dats K G xs vs ∧ xs.length ≤ line
def Bors (K : PySem.W.Frag) (G H : Hp) : List D → List V → Prop
  | [], vs => vs = []
  | d :: ds, vs => ∃ v r, vs = v :: r ∧ Bor K G H d v ∧ Bors K G H ds r
theorem Bor.ext {K : PySem.W.Frag} {G H G' H' : Hp} (x : Ext G H G' H') {d : D} {v : V} (h : Bor K G H d v) : Bor K G' H' d v := by
  rcases h with h | ⟨p, vs, xs, e, e2, h1, h2⟩
  · exact .inl (h.mono x.g)
  · exact .inr ⟨p, vs, xs, e, e2, x.h _ _ h1, h2.1.mono x.g, h2.2⟩
theorem Bors.ext {K : PySem.W.Frag} {G H G' H' : Hp} (x : Ext G H G' H') : ∀ {ds : List D} {vs : List V}, Bors K G H ds vs → Bors K G' H' ds vs
  | [], _, h => h
  | d :: ds, vs, ⟨v, r, e, h1, h2⟩ => ⟨v, r, e, h1.ext x, Bors.ext x h2⟩
theorem Bor.lst {K : PySem.W.Frag} {G H : Hp} (s : Same G H) {xs : List D} {v : V} (h : Bor K G H (.lst xs) v) : ∃ p vs, v = .ref p ∧ H p = some (.lst vs) ∧ Dats K G xs vs ∧ xs.length ≤ line := by
  rcases h with h | ⟨p, vs, ys, e, e2, h1, h2⟩
  · obtain ⟨a, vs, e, h1, h2⟩ := Dat.lst_iff.mp h
    exact ⟨a, vs, e, s _ _ h1, h2⟩
  · cases e
    exact ⟨p, vs, e2, h1, h2⟩
theorem Bor.dat {K : PySem.W.Frag} {G H : Hp} {d : D} {v : V} (h : Bor K G H d v) (n : ∀ xs, d ≠ .lst xs) : Dat K G d v := by
  rcases h with h | ⟨p, vs, xs, e, _⟩
  · exact h
  · exact absurd e (n xs)
theorem Bor.tup {K : PySem.W.Frag} {G H : Hp} (s : Same G H) {xs : List D} {v : V} (h : Bor K G H (.tup xs) v) : ∃ p vs, v = .ref p ∧ G p = some (.tup vs) ∧ H p = some (.tup vs) ∧ Dats K G xs vs ∧ xs.length ≤ line := by
  obtain ⟨a, vs, e, h1, h2⟩ := Dat.tup_iff.mp (h.dat fun _ => by simp)
  exact ⟨a, vs, e, h1, s _ _ h1, h2⟩
theorem Bor.tux {K : PySem.W.Frag} {G H : Hp} (s : Same G H) {xs : List D} {v : V} (h : Bor K G H (.tux xs) v) : ∃ p o vs, v = .ref p ∧ G p = some (.frz o (.tup vs)) ∧ H p = some (.frz o (.tup vs)) ∧ o.dict = none ∧ Dats K G xs vs ∧ xs.length ≤ line := by
  obtain ⟨a, o, vs, e, h1, h2⟩ := Dat.tux_iff.mp (h.dat fun _ => by simp)
  exact ⟨a, o, vs, e, h1, s _ _ h1, h2⟩
theorem _root_.L2.SqT.frz {K : PySem.W.Frag} {H : Hp} {a : Addr} {o : Obj} {xs : List V} (h : H a = some (.frz o (.tup xs))) : SqT K H a xs := .inl (.inr ⟨o, h⟩)
theorem Bor.int {K : PySem.W.Frag} {G H : Hp} {i : Int} {v : V} (h : Bor K G H (.int i) v) : v = .int i := Dat.int_iff.mp (h.dat fun _ => by simp)
theorem Bor.bl {K : PySem.W.Frag} {G H : Hp} {i : Bool} {v : V} (h : Bor K G H (.bl i) v) : v = .bl i := Dat.bl_iff.mp (h.dat fun _ => by simp)
theorem Bor.str {K : PySem.W.Frag} {G H : Hp} {i : Str} {v : V} (h : Bor K G H (.str i) v) : v = .str i := Dat.str_iff.mp (h.dat fun _ => by simp)
theorem Bor.non {K : PySem.W.Frag} {G H : Hp} {v : V} (h : Bor K G H .non v) : v = .non := Dat.non_iff.mp (h.dat fun _ => by simp)
/-- in the whole heap it is data -/
theorem Bor.all {K : PySem.W.Frag} {G H : Hp} (s : Same G H) {d : D} {v : V} (h : Bor K G H d v) : Dat K H d v := by
  rcases h with h | ⟨p, vs, xs, e, e2, h1, h2⟩
  · exact h.mono s
  · subst e; exact Dat.lst_iff.mpr ⟨p, vs, e2, h1, h2.1.mono s, h2.2⟩
theorem Bors.all {K : PySem.W.Frag} {G H : Hp} (s : Same G H) : ∀ {ds : List D} {vs : List V}, Bors K G H ds vs → Dats K H ds vs
  | [], _, h => by unfold Dats; exact h
  | d :: ds, vs, ⟨v, r, e, h1, h2⟩ => by subst e; exact .cons (h1.all s) (Bors.all s h2)

/-- the answer in data; a truth; a new list; arguments -/
abbrev QP (K : PySem.W.Frag) (W : WX) (σ : St) (G H : Hp) (Q : VK) : OP D → Prop := QG K W σ G H fun d G' H' => ∀ v, Dat K G' d v → Q v H'
abbrev QB (K : PySem.W.Frag) (W : WX) (σ : St) (G H : Hp) (Q : VK) : OP D → Prop := QG K W σ G H fun d G' H' => ∀ v, Bor K G' H' d v → Q v H'
abbrev QT (K : PySem.W.Frag) (W : WX) (σ : St) (G H : Hp) (Q : Bool → Hp → Prop) : OP Bool → Prop := QG K W σ G H fun b G' H' => Q b H'
abbrev QF (K : PySem.W.Frag) (W : WX) (σ : St) (G H : Hp) (Q : VK) : OP (List D) → Prop := QG K W σ G H fun ds G' H' => ∀ p vs, H p = none → G' p = none → H' p = some (.lst vs) → Dats K G' ds vs → ds.length ≤ line → Q (.ref p) H'
abbrev QA (K : PySem.W.Frag) (W : WX) (σ : St) (G H : Hp) (Q : List V → Hp → Prop) : OP (List D) → Prop := QG K W σ G H fun ds G' H' => ∀ vs, Dats K G' ds vs → Q vs H'
abbrev QBA (K : PySem.W.Frag) (W : WX) (σ : St) (G H : Hp) (Q : List V → Hp → Prop) : OP (List D) → Prop := QG K W σ G H fun ds G' H' => ∀ vs, Bors K G' H' ds vs → Q vs H'

structure DP (X : Cx) (W : WX) (e : Expr) (f : PE') : Prop where
  ex : ∃ t : TE, PE X e t ∧ ∀ ρ σ G H Q, RS X.K ρ σ G H → QP X.K W σ G H Q (f ρ) → t σ H Q
structure DB (X : Cx) (W : WX) (e : Expr) (f : PE') : Prop where
  ex : ∃ t : TE, PE X e t ∧ ∀ ρ σ G H Q, RS X.K ρ σ G H → QB X.K W σ G H Q (f ρ) → t σ H Q
structure DT (X : Cx) (W : WX) (e : Expr) (f : PT') : Prop where
  ex : ∃ t : TT, PT X e t ∧ ∀ ρ σ G H Q, RS X.K ρ σ G H → QT X.K W σ G H Q (f ρ) → t σ H Q
structure DW (X : Cx) (W : WX) (e : Expr) (f : PT') : Prop where
  ex : ∃ t : TT, PW X e t ∧ ∀ ρ σ G H Q, RS X.K ρ σ G H → QT X.K W σ G H Q (f ρ) → t σ H Q
structure DF (X : Cx) (W : WX) (e : Expr) (f : PF') : Prop where
  ex : ∃ t : TE, PE X e t ∧ ∀ ρ σ G H Q, RS X.K ρ σ G H → QF X.K W σ G H Q (f ρ) → t σ H Q
structure DA (X : Cx) (W : WX) (es : List Expr) (f : Rho → OP (List D)) : Prop where
  ex : ∃ t : TA, PA X es t ∧ ∀ ρ σ G H Q, RS X.K ρ σ G H → QA X.K W σ G H Q (f ρ) → t σ H Q
structure DBA (X : Cx) (W : WX) (es : List Expr) (f : Rho → OP (List D)) : Prop where
  ex : ∃ t : TA, PA X es t ∧ ∀ ρ σ G H Q, RS X.K ρ σ G H → QBA X.K W σ G H Q (f ρ) → t σ H Q

section
variable {X : Cx} {W : WX} {e e1 e2 e3 : Expr} {es : List Expr} {f f1 f2 f3 : PE'} {t1 t2 : PT'} {pos : Pos}
theorem DP.b (h : DP X W e f) : DB X W e f := by
  obtain ⟨t, p, q⟩ := h.ex
  exact ⟨t, p, fun ρ σ G H Q R h => q ρ σ G H Q R (h.imp fun d G' H' _ _ k v b => k v (.inl b))⟩
/-- a new list is data if nobody holds it -/
theorem DF.p {f : PF'} (h : DF X W e f) : DP X W e (pOfF f) := by
  obtain ⟨t, p, q⟩ := h.ex
  refine ⟨t, p, fun ρ σ G H Q R h => q ρ σ G H Q R ?_⟩
  unfold pOfF at h
  cases ho : f ρ with
  | stuck => rw [ho] at h; exact h
  | ok ds =>
    rw [ho] at h
    intro G' H' x a vs n g e l le
    exact h (upd G' a (.lst vs)) H' (x.fix' n g e) (.ref a) (Dat.lst_iff.mpr ⟨a, vs, rfl, upd_same, l.mono (same_upd g), le⟩)
  | exc C ns ds => rw [ho] at h; exact h
theorem DA.b {g : Rho → OP (List D)} (h : DA X W es g) : DBA X W es g := by
  obtain ⟨t, p, q⟩ := h.ex
  refine ⟨t, p, fun ρ σ G H Q R h => q ρ σ G H Q R (h.imp fun d G' H' _ _ k v b => k v ?_)⟩
  have all : ∀ (ds : List D) (vs : List V), Dats X.K G' ds vs → Bors X.K G' H' ds vs := by
    intro ds
    induction ds with
    | nil => intro vs q; exact q.nil_inv
    | cons d ds ih =>
      intro vs q
      obtain ⟨v, r, e, h1, h2⟩ := q.cons_inv
      exact ⟨v, r, e, .inl h1, ih r h2⟩
  exact all d v b

theorem dp_int {i j pos} : DP X W (.Constant (.int i) j pos) (pC (.int i)) :=
  ⟨_, pe_int, fun ρ σ G H Q R h => h G H (.refl R.sub) _ (Dat.int_iff.mpr rfl)⟩
theorem dp_bl {i j pos} : DP X W (.Constant (.bool i) j pos) (pC (.bl i)) :=
  ⟨_, pe_bl, fun ρ σ G H Q R h => h G H (.refl R.sub) _ (Dat.bl_iff.mpr rfl)⟩
theorem dp_str {i j pos} : DP X W (.Constant (.str i) j pos) (pC (.str i)) :=
  ⟨_, pe_str, fun ρ σ G H Q R h => h G H (.refl R.sub) _ (Dat.str_iff.mpr rfl)⟩
theorem dp_non {j pos} : DP X W (.Constant .none j pos) (pC .non) :=
  ⟨_, pe_non, fun ρ σ G H Q R h => h G H (.refl R.sub) _ (Dat.non_iff.mpr rfl)⟩
theorem dp_v (i : Nat) {x : Str} {pos : Pos} (hN : X.N[i]? = some x := by rfl) (hv : Vis X.env.scope x := by first | exact Or.inl rfl | exact Or.inr (Or.inl rfl) | exact Or.inr (Or.inr rfl)) (hd : (x == ("__debug__" : Str)) = false := by decide)
    (hcd : (x == ("__classdict__" : Str)) = false := by decide) : DP X W (.Name x pos) (pV i) := by
  refine ⟨_, pe_var hN hv hd hcd, fun ρ σ G H Q R h => ?_⟩
  unfold pV at h
  cases q : ρ[i]? with
  | none => rw [q] at h; exact h.elim
  | some s =>
    rw [q] at h
    cases s with
    | im d =>
      obtain ⟨v, e, hd⟩ := R.sl i _ q
      exact ⟨v, e, h G H (.refl R.sub) v hd⟩
    | _ => exact h.elim
theorem db_v (i : Nat) {x : Str} {pos : Pos} (hN : X.N[i]? = some x := by rfl) (hv : Vis X.env.scope x := by first | exact Or.inl rfl | exact Or.inr (Or.inl rfl) | exact Or.inr (Or.inr rfl)) (hd : (x == ("__debug__" : Str)) = false := by decide)
    (hcd : (x == ("__classdict__" : Str)) = false := by decide) : DB X W (.Name x pos) (pB i) := by
  refine ⟨_, pe_var hN hv hd hcd, fun ρ σ G H Q R h => ?_⟩
  unfold pB at h
  cases q : ρ[i]? with
  | none => rw [q] at h; exact h.elim
  | some s =>
    rw [q] at h
    cases s with
    | im d =>
      obtain ⟨v, e, hd⟩ := R.sl i _ q
      exact ⟨v, e, h G H (.refl R.sub) v (.inl hd)⟩
    | ml xs =>
      obtain ⟨p, vs, e, h1, h2, h3⟩ := R.sl i _ q
      exact ⟨_, e, h G H (.refl R.sub) _ (.inr ⟨p, vs, xs, rfl, rfl, h1, h3⟩)⟩
    | _ => exact h.elim

/-! ### operators by values -/
/-- an operation on values, some of them held by someone -/
def V1 (X : Cx) (r : V → Hp → VK → Prop) (f : D → Option D) : Prop := ∀ G H d v d' Q, Same G H → Bor X.K G H d v → f d = some d' → (∀ G' H', Ext G H G' H' → ∀ v', Dat X.K G' d' v' → Q v' H') → r v H Q
def V2 (X : Cx) (r : R2) (f : D → D → Option D) : Prop := ∀ G H d v e u d' Q, Same G H → Bor X.K G H d v → Bor X.K G H e u → f d e = some d' → (∀ G' H', Ext G H G' H' → ∀ v', Dat X.K G' d' v' → Q v' H') → r v u H Q
def VN (X : Cx) (r : List V → Hp → VK → Prop) (f : List D → Option D) : Prop := ∀ G H ds vs d' Q, Same G H → Bors X.K G H ds vs → f ds = some d' → (∀ G' H', Ext G H G' H' → ∀ v', Dat X.K G' d' v' → Q v' H') → r vs H Q
/-- .. that gives a new list -/
def VF (X : Cx) (r : List V → Hp → VK → Prop) (f : List D → Option (List D)) : Prop := ∀ G H ds vs d' Q, Same G H → Bors X.K G H ds vs → f ds = some d' →
  (∀ G' H', Ext G H G' H' → ∀ p vs', H p = none → G' p = none → H' p = some (.lst vs') → Dats X.K G' d' vs' → d'.length ≤ line → Q (.ref p) H') → r vs H Q
theorem db1 {f : PE'} {g : D → OP D} {ta : TE} {r : V → Hp → VK → Prop} (qa : ∀ ρ σ G H Q, RS X.K ρ σ G H → QB X.K W σ G H Q (f ρ) → ta σ H Q)
    (k : ∀ ρ σ G H d v Q, RS X.K ρ σ G H → Bor X.K G H d v → QP X.K W σ G H Q (g d) → r v H Q) : ∀ ρ σ G H Q, RS X.K ρ σ G H → QP X.K W σ G H Q ((f ρ).bind g) → ta σ H fun x H1 => r x H1 Q := by
  intro ρ σ G H Q R h
  exact qa ρ σ G H _ R (h.bind.imp fun d G' H' _ x q v b => k ρ σ G' H' d v Q (R.ext x) b q)
theorem db2 {ta tb : TE} {g : D → D → OP D} {r : R2} (qa : ∀ ρ σ G H Q, RS X.K ρ σ G H → QB X.K W σ G H Q (f1 ρ) → ta σ H Q) (qb : ∀ ρ σ G H Q, RS X.K ρ σ G H → QB X.K W σ G H Q (f2 ρ) → tb σ H Q)
    (k : ∀ ρ σ G H d v e u Q, RS X.K ρ σ G H → Bor X.K G H d v → Bor X.K G H e u → QP X.K W σ G H Q (g d e) → r v u H Q) :
    ∀ ρ σ G H Q, RS X.K ρ σ G H → QP X.K W σ G H Q ((f1 ρ).bind fun x => (f2 ρ).bind fun y => g x y) → tOp r ta tb σ H Q := by
  intro ρ σ G H Q R h
  refine qa ρ σ G H _ R (h.bind.imp fun d G1 H1 _ x1 q1 v b1 => ?_)
  exact qb ρ σ G1 H1 _ (R.ext x1) (q1.bind.imp fun e G2 H2 _ x2 q2 u b2 => k ρ σ G2 H2 d v e u Q ((R.ext x1).ext x2) (b1.ext x2) b2 q2)
theorem dp_op {op : Operator} {r : R2} {g : D → D → Option D} (ho : OpR X (binaryOp op) r) (v : V2 X r g) (ha : DB X W e1 f1) (hb : DB X W e2 f2) : DP X W (.BinOp e1 op e2 pos) (p2 g f1 f2) := by
  obtain ⟨ta, pa, qa⟩ := ha.ex
  obtain ⟨tb, pb, qb⟩ := hb.ex
  refine ⟨_, pe_op ho pa pb, db2 qa qb fun ρ σ G H d v1 e u Q R b1 b2 h => ?_⟩
  obtain ⟨a, ea, q⟩ := QG.of R.sub h
  exact v G H d v1 e u a Q R.sub b1 b2 ea q
theorem dp_cmp {op : CmpOp} {r : R2} {g : D → D → Option D} (ho : OpR X (compareOp op) r) (v : V2 X r g) (ha : DB X W e1 f1) (hb : DB X W e2 f2) (hm : behindInMarks op e2 = false := by first | exact nomark _ | rfl) : DP X W (.Compare e1 [op] [e2] pos) (p2 g f1 f2) := by
  obtain ⟨ta, pa, qa⟩ := ha.ex
  obtain ⟨tb, pb, qb⟩ := hb.ex
  refine ⟨_, pe_cmpR ho pa pb hm, db2 qa qb fun ρ σ G H d v1 e u Q R b1 b2 h => ?_⟩
  obtain ⟨a, ea, q⟩ := QG.of R.sub h
  exact v G H d v1 e u a Q R.sub b1 b2 ea q
/-- the reading of a value as a test -/
theorem tof_run {ta : TE} {f : PE'} (qa : ∀ ρ σ G H Q, RS X.K ρ σ G H → QP X.K W σ G H Q (f ρ) → ta σ H Q) : ∀ ρ σ G H Q, RS X.K ρ σ G H → QT X.K W σ G H Q (tOf f ρ) → ta σ H fun x H1 => ∃ c, x = .bl c ∧ Q c H1 := by
  intro ρ σ G H Q R h
  refine qa ρ σ G H _ R (QG.imp (QG.bind h) fun d G' H' _ x q v b => ?_)
  cases d with
  | bl c => exact ⟨c, Dat.bl_iff.mp b, q G' H' (.refl x.sub)⟩
  | _ => exact q.elim
theorem dt_cmp {op : CmpOp} {r : R2} {g : D → D → Option D} (ho : OpR X (compareOp op) r) (v : V2 X r g) (ha : DB X W e1 f1) (hb : DB X W e2 f2) (hm : behindInMarks op e2 = false := by first | exact nomark _ | rfl) : DT X W (.Compare e1 [op] [e2] pos) (tOf (p2 g f1 f2)) := by
  obtain ⟨ta, pa, qa⟩ := ha.ex
  obtain ⟨tb, pb, qb⟩ := hb.ex
  refine ⟨_, pt_cmpR ho pa pb hm, tof_run (db2 qa qb fun ρ σ G H d v1 e u Q R b1 b2 h => ?_)⟩
  obtain ⟨a, ea, q⟩ := QG.of R.sub h
  exact v G H d v1 e u a Q R.sub b1 b2 ea q
theorem chain_run {r r' : R2} {g g' : D → D → Option D} {ta tb tc : TE} (v : V2 X r g) (v' : V2 X r' g') (qa : ∀ ρ σ G H Q, RS X.K ρ σ G H → QB X.K W σ G H Q (f1 ρ) → ta σ H Q) (qb : ∀ ρ σ G H Q, RS X.K ρ σ G H → QB X.K W σ G H Q (f2 ρ) → tb σ H Q)
    (qc : ∀ ρ σ G H Q, RS X.K ρ σ G H → QB X.K W σ G H Q (f3 ρ) → tc σ H Q) : ∀ ρ σ G H Q, RS X.K ρ σ G H → QP X.K W σ G H Q (pChain g g' f1 f2 f3 ρ) → tChain r r' ta tb tc σ H Q := by
  intro ρ σ G H Q R h
  refine qa ρ σ G H _ R (QG.imp (QG.bind h) fun d G1 H1 _ x1 q1 v1 b1 => ?_)
  refine qb ρ σ G1 H1 _ (R.ext x1) (q1.bind.imp fun e G2 H2 _ x2 q2 u b2 => ?_)
  obtain ⟨z, ez, q3⟩ := QG.of x2.sub q2.bind
  refine v G2 H2 d v1 e u z _ x2.sub (b1.ext x2) b2 ez fun G3 H3 x3 z' dz => ?_
  have q4 := q3 G3 H3 x3
  cases z with
  | bl c =>
    refine ⟨c, Dat.bl_iff.mp dz, ?_⟩
    cases c with
    | true =>
      rw [if_pos rfl]
      refine qc ρ σ G3 H3 _ (((R.ext x1).ext x2).ext x3) (q4.bind.imp fun w G4 H4 _ x4 q5 y b4 => ?_)
      obtain ⟨a, ea, q6⟩ := QG.of x4.sub q5
      exact v' G4 H4 e u w y a Q x4.sub ((b2.ext x3).ext x4) b4 ea q6
    | false =>
      rw [if_neg Bool.false_ne_true]
      exact q4 G3 H3 (.refl x3.sub) _ (Dat.bl_iff.mpr rfl)
  | _ => exact q4.elim
theorem dp_chain {op op' : CmpOp} {r r' : R2} {g g' : D → D → Option D} (ho : OpR X (compareOp op) r) (v : V2 X r g) (ho' : OpR X (compareOp op') r') (v' : V2 X r' g') (ha : DB X W e1 f1) (hb : DB X W e2 f2) (hc : DB X W e3 f3)
    (hm : lastMarks [op, op'] [e2, e3] = false := by with_unfolding_all rfl) : DP X W (.Compare e1 [op, op'] [e2, e3] pos) (pChain g g' f1 f2 f3) := by
  obtain ⟨ta, pa, qa⟩ := ha.ex
  obtain ⟨tb, pb, qb⟩ := hb.ex
  obtain ⟨tc, pc, qc⟩ := hc.ex
  exact ⟨_, pe_chain ho ho' pa pb pc hm, chain_run v v' qa qb qc⟩
theorem dt_chain {op op' : CmpOp} {r r' : R2} {g g' : D → D → Option D} (ho : OpR X (compareOp op) r) (v : V2 X r g) (ho' : OpR X (compareOp op') r') (v' : V2 X r' g') (ha : DB X W e1 f1) (hb : DB X W e2 f2) (hc : DB X W e3 f3)
    (hm : lastMarks [op, op'] [e2, e3] = false := by with_unfolding_all rfl) : DT X W (.Compare e1 [op, op'] [e2, e3] pos) (tOf (pChain g g' f1 f2 f3)) := by
  obtain ⟨ta, pa, qa⟩ := ha.ex
  obtain ⟨tb, pb, qb⟩ := hb.ex
  obtain ⟨tc, pc, qc⟩ := hc.ex
  exact ⟨_, pt_chain ho ho' pa pb pc hm, tof_run (chain_run v v' qa qb qc)⟩
/-- a value as a test -/
theorem dt_v (h : DP X W e f) (he : ∀ whole, isTrue e X.env whole = (do let v ← whole; standAt e.pos; holding [v] (truthy v)) := by intro _; rfl) : DT X W e (tOf f) := by
  obtain ⟨ta, pa, qa⟩ := h.ex
  exact ⟨_, pt_val pa he, tof_run qa⟩
theorem DW.t (h : DW X W e t1) : DT X W e t1 := by
  obtain ⟨t, p, q⟩ := h.ex
  exact ⟨t, p.pt, q⟩
theorem dw_and1 (h : DT X W e t1) : DW X W (.BoolOp .And [e] pos) t1 := by
  obtain ⟨t, p, q⟩ := h.ex
  exact ⟨_, pw_and1 p, q⟩
theorem dw_or1 (h : DT X W e t1) : DW X W (.BoolOp .Or [e] pos) t1 := by
  obtain ⟨t, p, q⟩ := h.ex
  exact ⟨_, pw_or1 p, q⟩
theorem dw_and {e' : Expr} {r : List Expr} (h : DT X W e t1) (k : DW X W (.BoolOp .And (e' :: r) pos) t2) : DW X W (.BoolOp .And (e :: e' :: r) pos) (tAnd t1 t2) := by
  obtain ⟨t, p, q⟩ := h.ex
  obtain ⟨t', p', q'⟩ := k.ex
  refine ⟨_, pw_and p p', fun ρ σ G H Q R h => q ρ σ G H _ R (QG.imp (QG.bind h) fun b G' H' _ x k => ?_)⟩
  cases b with
  | true => rw [if_pos rfl]; exact q' ρ σ G' H' Q (R.ext x) k
  | false => rw [if_neg Bool.false_ne_true]; exact k G' H' (.refl x.sub)
theorem dw_or {e' : Expr} {r : List Expr} (h : DT X W e t1) (k : DW X W (.BoolOp .Or (e' :: r) pos) t2) : DW X W (.BoolOp .Or (e :: e' :: r) pos) (tOr t1 t2) := by
  obtain ⟨t, p, q⟩ := h.ex
  obtain ⟨t', p', q'⟩ := k.ex
  refine ⟨_, pw_or p p', fun ρ σ G H Q R h => q ρ σ G H _ R (QG.imp (QG.bind h) fun b G' H' _ x k => ?_)⟩
  cases b with
  | true => rw [if_pos rfl]; exact k G' H' (.refl x.sub)
  | false => rw [if_neg Bool.false_ne_true]; exact q' ρ σ G' H' Q (R.ext x) k
theorem dt_not (h : DT X W e t1) : DT X W (.UnaryOp .Not e pos) (tNot t1) := by
  obtain ⟨t, p, q⟩ := h.ex
  exact ⟨_, pt_not p, fun ρ σ G H Q R h => q ρ σ G H _ R (QG.imp (QG.bind h) fun b G' H' _ x k => k G' H' (.refl x.sub))⟩
theorem dp_ifExp (h : DT X W e t1) (ha : DP X W e1 f1) (hb : DP X W e2 f2) : DP X W (.IfExp e e1 e2 pos) (pIf t1 f1 f2) := by
  obtain ⟨t, p, q⟩ := h.ex
  obtain ⟨ta, pa, qa⟩ := ha.ex
  obtain ⟨tb, pb, qb⟩ := hb.ex
  refine ⟨_, pe_ifExp p pa pb, fun ρ σ G H Q R h => q ρ σ G H _ R (QG.imp (QG.bind h) fun b G' H' _ x k => ?_)⟩
  cases b with
  | true => rw [if_pos rfl]; exact qa ρ σ G' H' Q (R.ext x) k
  | false => rw [if_neg Bool.false_ne_true]; exact qb ρ σ G' H' Q (R.ext x) k
theorem dv_one {op} (h : DP X W e f) : DP X W (.BoolOp op [e] pos) f := by
  obtain ⟨t, p, q⟩ := h.ex
  exact ⟨_, pe_one p, q⟩
theorem dv_and {e' : Expr} {r : List Expr} (h : DP X W e f1) (k : DP X W (.BoolOp .And (e' :: r) pos) f2) : DP X W (.BoolOp .And (e :: e' :: r) pos) (vAnd f1 f2) := by
  obtain ⟨t, p, q⟩ := h.ex
  obtain ⟨t', p', q'⟩ := k.ex
  refine ⟨_, pe_and p p', fun ρ σ G H Q R h => q ρ σ G H _ R (QG.imp (QG.bind h) fun d G' H' _ x k v dv => ?_)⟩
  cases d with
  | bl b =>
    refine ⟨b, Dat.bl_iff.mp dv, ?_⟩
    cases b with
    | true => rw [if_pos rfl]; exact q' ρ σ G' H' Q (R.ext x) k
    | false => rw [if_neg Bool.false_ne_true]; exact k G' H' (.refl x.sub) _ (Dat.bl_iff.mpr rfl)
  | _ => exact k.elim
theorem dv_or {e' : Expr} {r : List Expr} (h : DP X W e f1) (k : DP X W (.BoolOp .Or (e' :: r) pos) f2) : DP X W (.BoolOp .Or (e :: e' :: r) pos) (vOr f1 f2) := by
  obtain ⟨t, p, q⟩ := h.ex
  obtain ⟨t', p', q'⟩ := k.ex
  refine ⟨_, pe_or p p', fun ρ σ G H Q R h => q ρ σ G H _ R (QG.imp (QG.bind h) fun d G' H' _ x k v dv => ?_)⟩
  cases d with
  | bl b =>
    refine ⟨b, Dat.bl_iff.mp dv, ?_⟩
    cases b with
    | true => rw [if_pos rfl]; exact k G' H' (.refl x.sub) _ (Dat.bl_iff.mpr rfl)
    | false => rw [if_neg Bool.false_ne_true]; exact q' ρ σ G' H' Q (R.ext x) k
  | _ => exact k.elim
theorem dv_not (h : DP X W e f1) : DP X W (.UnaryOp .Not e pos) (vNot f1) := by
  obtain ⟨t, p, q⟩ := h.ex
  refine ⟨_, pe_not p, fun ρ σ G H Q R h => q ρ σ G H _ R (QG.imp (QG.bind h) fun d G' H' _ x k v dv => ?_)⟩
  cases d with
  | bl b => exact ⟨b, Dat.bl_iff.mp dv, k G' H' (.refl x.sub) _ (Dat.bl_iff.mpr rfl)⟩
  | _ => exact k.elim
/-! ### arguments -/
theorem da_nil : DA X W [] (pArgs []) := ⟨_, pa_nil, fun ρ σ G H Q R h => h G H (.refl R.sub) [] .nil⟩
theorem da_cons {as : List PE'} (h : DP X W e f) (r : DA X W es (pArgs as)) (hs : starEach (e :: es) X.env = (false, eval e X.env) :: starEach es X.env := by rfl) : DA X W (e :: es) (pArgs (f :: as)) := by
  obtain ⟨t, p, q⟩ := h.ex
  obtain ⟨t', p', q'⟩ := r.ex
  refine ⟨_, pa_cons p p' hs, fun ρ σ G H Q R h => q ρ σ G H _ R (QG.imp (QG.bind h) fun d G1 H1 _ x1 q1 v dv => ?_)⟩
  exact q' ρ σ G1 H1 _ (R.ext x1) (q1.bind.imp fun ds G2 H2 _ x2 q2 vs dvs => q2 G2 H2 (.refl x2.sub) (v :: vs) (.cons (dv.mono x2.g) dvs))
theorem dba_nil : DBA X W [] (pArgs []) := ⟨_, pa_nil, fun ρ σ G H Q R h => h G H (.refl R.sub) [] rfl⟩
theorem dba_cons {as : List PE'} (h : DB X W e f) (r : DBA X W es (pArgs as)) (hs : starEach (e :: es) X.env = (false, eval e X.env) :: starEach es X.env := by rfl) : DBA X W (e :: es) (pArgs (f :: as)) := by
  obtain ⟨t, p, q⟩ := h.ex
  obtain ⟨t', p', q'⟩ := r.ex
  refine ⟨_, pa_cons p p' hs, fun ρ σ G H Q R h => q ρ σ G H _ R (QG.imp (QG.bind h) fun d G1 H1 _ x1 q1 v dv => ?_)⟩
  exact q' ρ σ G1 H1 _ (R.ext x1) (q1.bind.imp fun ds G2 H2 _ x2 q2 vs dvs => q2 G2 H2 (.refl x2.sub) (v :: vs) ⟨v, vs, rfl, dv.ext x2, dvs⟩)
theorem line_is : (line : Nat) = sizeLine := sizeLine_eq.symm
theorem dp_tup {as : List PE'} {k} (h : DA X W es (pArgs as)) : DP X W (.Tuple es k pos) (nTup as) := by
  obtain ⟨t, p, q⟩ := h.ex
  refine ⟨_, pe_tup p, fun ρ σ G H Q R h => q ρ σ G H _ R (QG.imp (QG.bind h) fun ds G1 H1 _ x1 q1 vs dv => ?_)⟩
  obtain ⟨a, ea, q2⟩ := QG.of x1.sub q1
  dsimp only at ea
  have hl : ds.length ≤ line := by
    by_cases c : ds.length ≤ line
    · exact c
    · rw [if_neg c] at ea; cases ea
  rw [if_pos hl] at ea
  cases ea
  refine ⟨by rw [← dv.len, ← line_is]; exact hl, fun p np => ?_⟩
  exact q2 _ _ (.new x1.sub np) (.ref p) (Dat.tup_iff.mpr ⟨p, vs, rfl, upd_same, dv.mono (same_upd (x1.sub.free np)), hl⟩)
theorem df_lst {as : List PE'} (h : DA X W es (pArgs as)) : DF X W (.List es pos) (nLst as) := by
  obtain ⟨t, p, q⟩ := h.ex
  refine ⟨_, pe_lst p, fun ρ σ G H Q R h => q ρ σ G H _ R ?_⟩
  have h' : QF X.K W σ G H Q ((pArgs as ρ).bind fun xs => .of (if xs.length ≤ line then some xs else none)) := h
  cases ho : pArgs as ρ with
  | stuck => rw [ho] at h'; exact h'
  | exc C ns ds => rw [ho] at h'; exact h'
  | ok ds =>
    rw [ho] at h'
    intro G1 H1 x1 vs dv
    have hl : ds.length ≤ line := by
      by_cases c : ds.length ≤ line
      · exact c
      · have h2 : QF X.K W σ G H Q (.of (if ds.length ≤ line then some ds else none)) := h'
        rw [if_neg c] at h2; exact h2.elim
    have h2 : QF X.K W σ G H Q (.of (if ds.length ≤ line then some ds else none)) := h'
    rw [if_pos hl] at h2
    refine ⟨by rw [← dv.len, ← line_is]; exact hl, fun p np => ?_⟩
    exact h2 G1 (upd H1 p (.lst vs)) (x1.trans (.own x1.sub np)) p vs (x1.h.free np) (x1.sub.free np) upd_same dv hl
end
end Pu
end
section
/-! Pu, the layer: operators and built-ins. -/
namespace Pu
open PySem PySem.Spec L2
open PyProof.Rows hiding St
section
variable {K : PySem.W.Frag} {H : Hp}
mutual
theorem dpy : ∀ {d : D} {v : V} {p : PyData}, Dat K H d v → d.py = some p → Dp K H v p
  | .non, v, p, h, e => by rw [Dat.non_iff.mp h]; cases e; exact .non
  | .bl b, v, p, h, e => by rw [Dat.bl_iff.mp h]; cases e; exact .bl b
  | .int b, v, p, h, e => by rw [Dat.int_iff.mp h]; cases e; exact .int b
  | .str b, v, p, h, e => by rw [Dat.str_iff.mp h]; cases e; exact .str b
  | .lst ds, v, p, h, e => by
    obtain ⟨a, vs, rfl, h1, h2⟩ := Dat.lst_iff.mp h
    have e' : (D.pys ds).map PyData.list = some p := e
    obtain ⟨q, e1, rfl⟩ := Option.map_eq_some_iff.mp e'
    exact .lst (.of h1) (dpys h2.1 e1)
  | .tup ds, v, p, h, e => by
    obtain ⟨a, vs, rfl, h1, h2⟩ := Dat.tup_iff.mp h
    have e' : (D.pys ds).map PyData.tuple = some p := e
    obtain ⟨q, e1, rfl⟩ := Option.map_eq_some_iff.mp e'
    exact .tup (.of h1) (dpys h2.1 e1)
  | .tux ds, v, p, h, e => by
    obtain ⟨a, o, vs, rfl, h1, _, h2⟩ := Dat.tux_iff.mp h
    have e' : (D.pys ds).map PyData.tuple = some p := e
    obtain ⟨q, e1, rfl⟩ := Option.map_eq_some_iff.mp e'
    exact .tup (.frz h1) (dpys h2.1 e1)
  | .obj _ _ _, v, p, h, e => by cases e
  | .scr _, v, p, h, e => by cases e
theorem dpys : ∀ {ds : List D} {vs : List V} {ps : List PyData}, Dats K H ds vs → D.pys ds = some ps → DpAll K H vs ps
  | [], vs, ps, h, e => by rw [h.nil_inv]; cases e; exact .nil
  | d :: ds, vs, ps, h, e => by
    obtain ⟨v, r, rfl, h1, h2⟩ := h.cons_inv
    have e' : (D.py d).bind (fun p => (D.pys ds).map fun q => p :: q) = some ps := e
    obtain ⟨p, e1, e2⟩ := Option.bind_eq_some_iff.mp e'
    obtain ⟨q, e3, rfl⟩ := Option.map_eq_some_iff.mp e2
    exact .cons (dpy h1 e1) (dpys h2 e3)
end
end
section
variable {X : Cx}
theorem iOp_some {g : Int → Int → Int} {d e d' : D} (h : iOp g d e = some d') : ∃ i j, d = .int i ∧ e = .int j ∧ d' = .int (g i j) := by
  cases d <;> cases e <;> simp only [iOp] at h <;> first | (cases h; exact ⟨_, _, rfl, rfl, rfl⟩) | cases h
theorem iOpC_some {c : Int → Int → Bool} {g : Int → Int → Int} {d e d' : D} (h : iOpC c g d e = some d') : ∃ i j, d = .int i ∧ e = .int j ∧ c i j = true ∧ d' = .int (g i j) := by
  cases d <;> cases e <;> simp only [iOpC] at h <;> first | cases h; done | skip
  split at h
  · cases h; exact ⟨_, _, rfl, rfl, by assumption, rfl⟩
  · cases h
theorem bOp_some {g : Int → Int → Bool} {d e d' : D} (h : bOp g d e = some d') : ∃ i j, d = .int i ∧ e = .int j ∧ d' = .bl (g i j) := by
  cases d <;> cases e <;> simp only [bOp] at h <;> first | (cases h; exact ⟨_, _, rfl, rfl, rfl⟩) | cases h
theorem v2_i0 {g : Int → Int → Int} : V2 X (rI0 fun i j => .int (g i j)) (iOp g) := by
  intro G H d v e u d' Q s b1 b2 h q
  obtain ⟨i, j, rfl, rfl, rfl⟩ := iOp_some h
  exact ⟨i, j, b1.int, b2.int, q G H (.refl s) _ (Dat.int_iff.mpr rfl)⟩
theorem v2_b0 {g : Int → Int → Bool} : V2 X (rI0 fun i j => .bl (g i j)) (bOp g) := by
  intro G H d v e u d' Q s b1 b2 h q
  obtain ⟨i, j, rfl, rfl, rfl⟩ := bOp_some h
  exact ⟨i, j, b1.int, b2.int, q G H (.refl s) _ (Dat.bl_iff.mpr rfl)⟩
theorem v2_iC {C : Int → Int → Prop} {c : Int → Int → Bool} {g : Int → Int → Int} (hc : ∀ i j, c i j = true → C i j) : V2 X (rI C fun i j => .int (g i j)) (iOpC c g) := by
  intro G H d v e u d' Q s b1 b2 h q
  obtain ⟨i, j, rfl, rfl, hcc, rfl⟩ := iOpC_some h
  exact ⟨i, j, b1.int, b2.int, hc i j hcc, q G H (.refl s) _ (Dat.int_iff.mpr rfl)⟩
theorem v2_add : V2 X (rI0 fun i j => .int (i + j)) oAdd := v2_i0
theorem v2_sub : V2 X (rI0 fun i j => .int (i - j)) oSub := v2_i0
theorem v2_mul : V2 X (rI CMul fun i j => .int (i * j)) oMul := v2_iC fun i j h => by unfold CMul; exact of_decide_eq_true h
theorem v2_mod : V2 X (rI (fun _ j => 0 < j) fun i j => .int (i % j)) oMod := v2_iC fun i j h => by simpa using h
theorem v2_div : V2 X (rI CDiv fun i j => .int (i / j)) oDiv := v2_iC fun i j h => by simpa [CDiv] using h
theorem v2_pow : V2 X (rI CPow fun i j => .int (i ^ j.toNat)) oPow := v2_iC fun i j h => by simpa [CPow] using h
theorem v2_lt : V2 X (rI0 fun i j => .bl (decide (i < j))) oLt := v2_b0
theorem v2_le : V2 X (rI0 fun i j => .bl (decide (i ≤ j))) oLe := v2_b0
theorem v2_gt : V2 X (rI0 fun i j => .bl (decide (j < i))) oGt := v2_b0
theorem v2_ge : V2 X (rI0 fun i j => .bl (decide (j ≤ i))) oGe := v2_b0
/-- ==, != -/
theorem eqB_some {a b : D} {k : Bool} (h : oEqB a b = some k) : ∃ p q, a.py = some p ∧ b.py = some q ∧ SeqAt.shaped p = true ∧ SeqAt.shaped q = true ∧ k = PyData.eqv p q := by
  unfold oEqB at h
  split at h
  · rename_i p q e1 e2
    split at h
    · rename_i c
      rw [Bool.and_eq_true] at c
      cases h
      exact ⟨p, q, e1, e2, c.1, c.2, rfl⟩
    · cases h
  · cases h
theorem v2_eq : V2 X (rEqD X.K) oEq := by
  intro G H d v e u d' Q s b1 b2 h q
  obtain ⟨k, hk, rfl⟩ := Option.map_eq_some_iff.mp h
  obtain ⟨p, r, e1, e2, s1, s2, rfl⟩ := eqB_some hk
  exact ⟨p, r, dpy (b1.all s) e1, dpy (b2.all s) e2, s1, s2, q G H (.refl s) _ (Dat.bl_iff.mpr rfl)⟩
theorem v2_ne : V2 X (rNeD X.K) oNe := by
  intro G H d v e u d' Q s b1 b2 h q
  obtain ⟨k, hk, rfl⟩ := Option.map_eq_some_iff.mp h
  obtain ⟨p, r, e1, e2, s1, s2, rfl⟩ := eqB_some hk
  exact ⟨p, r, dpy (b1.all s) e1, dpy (b2.all s) e2, s1, s2, q G H (.refl s) _ (Dat.bl_iff.mpr rfl)⟩
/-- in, not in -/
def rInA (K : PySem.W.Frag) (neg : Bool) : R2 := fun x y H Q => ∃ d e ds, Dp K H x d ∧ Dp K H y e ∧ (e = .list ds ∨ e = .tuple ds) ∧ SeqAt.shaped d = true ∧ SeqAt.shaped e = true ∧ Q (.bl (if neg then !ds.any (fun z => PyData.eqv z d) else ds.any fun z => PyData.eqv z d)) H
theorem op_inA (hu : X.A.units + 65 < cLine) : OpR X (compareOp .In) (rInA X.K false) := by
  intro pins s σ H x y v u Q I rx ry h
  obtain ⟨d, e, ds, hd, he, hk, sd, se, q⟩ := h
  obtain ⟨as, r1⟩ := Dp.reads I d x v hd rx
  obtain ⟨bs, r2⟩ := Dp.reads I e y u he ry
  rcases hk with rfl | rfl
  · exact SeqAt.in_list_reads r2 r1 (SeqAt.canLay_of_shaped se) (SeqAt.canLay_of_shaped sd) (room_in_shaped sd hu) ⟨.bl _, H, I, rfl, q⟩
  · exact SeqAt.in_tuple_reads r2 r1 (SeqAt.canLay_of_shaped se) (SeqAt.canLay_of_shaped sd) (room_in_shaped sd hu) ⟨.bl _, H, I, rfl, q⟩
theorem op_notInA (hu : X.A.units + 65 < cLine) : OpR X (compareOp .NotIn) (rInA X.K true) := by
  intro pins s σ H x y v u Q I rx ry h
  obtain ⟨d, e, ds, hd, he, hk, sd, se, q⟩ := h
  obtain ⟨as, r1⟩ := Dp.reads I d x v hd rx
  obtain ⟨bs, r2⟩ := Dp.reads I e y u he ry
  rcases hk with rfl | rfl
  · exact SeqAt.notIn_list_reads r2 r1 (SeqAt.canLay_of_shaped se) (SeqAt.canLay_of_shaped sd) (room_in_shaped sd hu) ⟨.bl _, H, I, rfl, q⟩
  · exact SeqAt.notIn_tuple_reads r2 r1 (SeqAt.canLay_of_shaped se) (SeqAt.canLay_of_shaped sd) (room_in_shaped sd hu) ⟨.bl _, H, I, rfl, q⟩
theorem inB_some {a b : D} {k : Bool} (h : oInB a b = some k) : ∃ p q ds, a.py = some p ∧ b.py = some q ∧ (q = .list ds ∨ q = .tuple ds) ∧ SeqAt.shaped p = true ∧ SeqAt.shaped q = true ∧ k = ds.any fun z => PyData.eqv z p := by
  unfold oInB at h
  split at h
  · rename_i p q e1 e2
    split at h
    · rename_i c
      rw [Bool.and_eq_true] at c
      cases h
      exact ⟨p, _, q, e1, e2, .inl rfl, c.1, c.2, rfl⟩
    · cases h
  · rename_i p q e1 e2
    split at h
    · rename_i c
      rw [Bool.and_eq_true] at c
      cases h
      exact ⟨p, _, q, e1, e2, .inr rfl, c.1, c.2, rfl⟩
    · cases h
  · cases h
theorem v2_in : V2 X (rInA X.K false) oIn := by
  intro G H d v e u d' Q s b1 b2 h q
  obtain ⟨k, hk, rfl⟩ := Option.map_eq_some_iff.mp h
  obtain ⟨p, r, ds, e1, e2, e3, s1, s2, rfl⟩ := inB_some hk
  exact ⟨p, r, ds, dpy (b1.all s) e1, dpy (b2.all s) e2, e3, s1, s2, q G H (.refl s) _ (Dat.bl_iff.mpr rfl)⟩
theorem v2_notIn : V2 X (rInA X.K true) oNotIn := by
  intro G H d v e u d' Q s b1 b2 h q
  obtain ⟨k, hk, rfl⟩ := Option.map_eq_some_iff.mp h
  obtain ⟨p, r, ds, e1, e2, e3, s1, s2, rfl⟩ := inB_some hk
  exact ⟨p, r, ds, dpy (b1.all s) e1, dpy (b2.all s) e2, e3, s1, s2, q G H (.refl s) _ (Dat.bl_iff.mpr rfl)⟩

/-! ### subscripts -/
theorem ix_some {xs : List D} {i : Int} {d : D} {K : PySem.W.Frag} {G : Hp} {vs : List V} (h : atD xs i = some d) (r : Dats K G xs vs) : ∃ v, atI vs i = some v ∧ Dat K G d v := by
  unfold atD at h
  obtain ⟨j, h1, h2⟩ := Option.bind_eq_some_iff.mp h
  obtain ⟨v, e1, e2⟩ := r.get h2
  refine ⟨v, ?_, e2⟩
  unfold atI
  rw [← r.len]
  have : ixN xs.length i = some j := h1
  rw [this]
  exact e1
theorem v2_ix : V2 X (fun x y H Q => rIxL X.K x y H Q ∨ rIxT X.K x y H Q) oIx := by
  intro G H d v e u d' Q s b1 b2 h q
  cases d with
  | lst xs =>
    cases e with
    | int i =>
      obtain ⟨p, vs, rfl, h1, h2⟩ := b1.lst s
      obtain ⟨w, e1, e2⟩ := ix_some (show atD xs i = some d' from h) h2.1
      exact .inl ⟨p, vs, i, w, rfl, b2.int, .of h1, e1, q G H (.refl s) w e2⟩
    | _ => cases h
  | tup xs =>
    cases e with
    | int i =>
      obtain ⟨p, vs, rfl, _, h1, h2⟩ := b1.tup s
      obtain ⟨w, e1, e2⟩ := ix_some (show atD xs i = some d' from h) h2.1
      exact .inr ⟨p, vs, i, w, rfl, b2.int, .of h1, e1, q G H (.refl s) w e2⟩
    | _ => cases h
  | tux xs =>
    cases e with
    | int i =>
      obtain ⟨p, o, vs, rfl, _, h1, _, h2⟩ := b1.tux s
      obtain ⟨w, e1, e2⟩ := ix_some (show atD xs i = some d' from h) h2.1
      exact .inr ⟨p, vs, i, w, rfl, b2.int, .frz h1, e1, q G H (.refl s) w e2⟩
    | _ => cases h
  | scr ns =>
    cases e with
    | int i =>
      obtain ⟨a, rfl, h1⟩ := Dat.scr_iff.mp (b1.dat fun _ => by simp)
      have h' : ((ixD ns.length i).bind fun j => (ns[j]?).map D.int) = some d' := h
      obtain ⟨j, e1, e2⟩ := Option.bind_eq_some_iff.mp h'
      obtain ⟨n, e3, rfl⟩ := Option.map_eq_some_iff.mp e2
      refine .inl ⟨a, ns.map V.int, i, .int n, rfl, b2.int, s.seq h1, ?_, q G H (.refl s) _ (Dat.int_iff.mpr rfl)⟩
      unfold atI
      have : ixN ns.length i = some j := e1
      rw [List.length_map, this]
      show (ns.map V.int)[j]? = _
      rw [List.getElem?_map, e3]; rfl
    | _ => cases h
  | _ => cases e <;> cases h
variable {W : WX} {e e1 e2 e3 : Expr} {es : List Expr} {f f1 f2 f3 : PE'} {t1 t2 : PT'} {pos : Pos}
theorem dp_ix (ha : DB X W e1 f1) (hb : DB X W e2 f2) (hs : PlainIx e2 := by exact fun _ _ => rfl) : DP X W (.Subscript e1 e2 pos) (p2 oIx f1 f2) := by
  obtain ⟨ta, pa, qa⟩ := ha.ex
  obtain ⟨tb, pb, qb⟩ := hb.ex
  refine ⟨_, pe_ix (IxR.or ix_list ix_tup) pa pb hs, db2 qa qb fun ρ σ G H d v1 e u Q R b1 b2 h => ?_⟩
  obtain ⟨a, ea, q⟩ := QG.of R.sub h
  exact v2_ix G H d v1 e u a Q R.sub b1 b2 ea q
/-! ### slices -/
/-- a bound of a slice: an int, or nothing -/
abbrev PO' := Rho → OP (Option Int)
def oNo : PO' := fun _ => .ok none
def oSo (a : PE') : PO' := fun ρ => (a ρ).bind fun d => match d with
  | .int i => .ok (some i)
  | _ => .stuck
structure DO' (X : Cx) (W : WX) (e : Option Expr) (f : PO') : Prop where
  ex : ∃ t : TO, PO X e t ∧ ∀ ρ σ G H (Q : Option Int → Hp → Prop), RS X.K ρ σ G H → QG X.K W σ G H (fun i _ H' => Q i H') (f ρ) → t σ H Q
theorem do_no : DO' X W none oNo := ⟨_, po_none, fun ρ σ G H Q R h => h G H (.refl R.sub)⟩
theorem do_so (h : DP X W e f) : DO' X W (some e) (oSo f) := by
  obtain ⟨t, p, q⟩ := h.ex
  refine ⟨_, po_some p, fun ρ σ G H Q R h => q ρ σ G H _ R (QG.imp (QG.bind h) fun d G' H' _ x k v dv => ?_)⟩
  cases d with
  | int i => exact ⟨i, Dat.int_iff.mp dv, k G' H' (.refl x.sub)⟩
  | _ => exact k.elim
def pSl (a : PE') (lo hi : PO') : PE' := fun ρ => (a ρ).bind fun x => (lo ρ).bind fun l => (hi ρ).bind fun h => .of (oSlT x l h)
def fSl (a : PE') (lo hi : PO') : PF' := fun ρ => (a ρ).bind fun x => (lo ρ).bind fun l => (hi ρ).bind fun h => .of (oSlL x l h)
theorem cut_is {K : PySem.W.Frag} {G : Hp} {xs : List D} {vs : List V} (r : Dats K G xs vs) (lo hi : Option Int) : Dats K G (cutD xs lo hi) (cutV vs lo hi) := by
  have e : ∀ n d o, sIxD n d o = HT.sIx n d o := fun n d o => by cases o <;> rfl
  unfold cutD cutV
  rw [e, e, r.len]
  exact (r.drop _).take _
theorem cut_le {xs : List D} (h : xs.length ≤ line) (lo hi : Option Int) : (cutD xs lo hi).length ≤ line := by
  unfold cutD
  rw [List.length_take, List.length_drop]
  omega
theorem cut_whole {xs : List V} {lo hi : Option Int} (h : HT.sIx xs.length 0 lo = 0 ∧ HT.sIx xs.length xs.length hi = xs.length) : cutV xs lo hi = xs := by
  unfold cutV
  rw [h.1, h.2]
  simp
theorem dp_sl {lo hi : Option Expr} {fl fh : PO'} {p2} (ha : DB X W e f) (hl : DO' X W lo fl) (hh : DO' X W hi fh) : DP X W (.Subscript e (.Slice lo hi none p2) pos) (pSl f fl fh) := by
  obtain ⟨ta, pa, qa⟩ := ha.ex
  obtain ⟨tl, pl, ql⟩ := hl.ex
  obtain ⟨th, ph, qh⟩ := hh.ex
  refine ⟨_, pe_slice sl_tupA pa pl ph, fun ρ σ G H Q R h => qa ρ σ G H _ R (QG.imp (QG.bind h) fun d G1 H1 _ x1 q1 v b1 => ?_)⟩
  refine ql ρ σ G1 H1 _ (R.ext x1) (q1.bind.imp fun l G2 H2 _ x2 q2 => ?_)
  refine qh ρ σ G2 H2 _ ((R.ext x1).ext x2) (q2.bind.imp fun u G3 H3 _ x3 q3 => ?_)
  obtain ⟨a, ea, q4⟩ := QG.of x3.sub q3
  cases d with
  | tup xs =>
    cases ea
    obtain ⟨p, vs, rfl, g1, h1, h2⟩ := ((b1.ext x2).ext x3).tup x3.sub
    refine ⟨p, vs, rfl, .of h1, fun w => ?_, fun w p' np => ?_⟩
    · refine q4 G3 H3 (.refl x3.sub) _ (Dat.tup_iff.mpr ⟨p, vs, rfl, g1, ?_⟩)
      have := cut_is h2.1 l u
      rw [cut_whole w] at this
      exact ⟨this, cut_le h2.2 l u⟩
    · exact q4 _ _ (.new x3.sub np) _ (Dat.tup_iff.mpr ⟨p', _, rfl, upd_same, (cut_is h2.1 l u).mono (same_upd (x3.sub.free np)), cut_le h2.2 l u⟩)
  | tux xs =>
    have ea' : (if sIxD xs.length 0 l = 0 ∧ sIxD xs.length xs.length u = xs.length then none else some (D.tup (cutD xs l u))) = some a := ea
    by_cases cw : sIxD xs.length 0 l = 0 ∧ sIxD xs.length xs.length u = xs.length
    · rw [if_pos cw] at ea'; cases ea'
    · rw [if_neg cw] at ea'
      cases ea'
      obtain ⟨p, o, vs, rfl, g1, h1, _, h2⟩ := ((b1.ext x2).ext x3).tux x3.sub
      have e : ∀ n d o, sIxD n d o = HT.sIx n d o := fun n d o => by cases o <;> rfl
      refine ⟨p, vs, rfl, .frz h1, fun w => ?_, fun w p' np => ?_⟩
      · exfalso
        rw [← h2.1.len, ← e, ← e] at w
        exact cw w
      · exact q4 _ _ (.new x3.sub np) _ (Dat.tup_iff.mpr ⟨p', _, rfl, upd_same, (cut_is h2.1 l u).mono (same_upd (x3.sub.free np)), cut_le h2.2 l u⟩)
  | _ => cases ea
/-- the steps from an evaluation whose answer is a new list -/
theorem QF.bind {α : Type} {K : PySem.W.Frag} {σ : St} {G H : Hp} {Q : VK} {o : OP α} {k : α → OP (List D)} (h : QF K W σ G H Q (o.bind k)) :
    QG K W σ G H (fun a G' H' => QF K W σ G' H' Q (k a)) o := by
  cases o with
  | stuck => exact h
  | exc C ns ds => exact h
  | ok a =>
    intro G1 H1 x1
    have h' : QF K W σ G H Q (k a) := h
    cases hk : k a with
    | stuck => rw [hk] at h'; exact h'
    | exc C ns ds => rw [hk] at h'; exact Xc.ext x1 (show Xc K W σ G H C ns ds from h')
    | ok ds =>
      rw [hk] at h'
      intro G2 H2 x2 p vs n g e l le
      exact h' G2 H2 (x1.trans x2) p vs (x1.h.free n) g e l le
theorem df_sl {lo hi : Option Expr} {fl fh : PO'} {p2} (ha : DB X W e f) (hl : DO' X W lo fl) (hh : DO' X W hi fh) : DF X W (.Subscript e (.Slice lo hi none p2) pos) (fSl f fl fh) := by
  obtain ⟨ta, pa, qa⟩ := ha.ex
  obtain ⟨tl, pl, ql⟩ := hl.ex
  obtain ⟨th, ph, qh⟩ := hh.ex
  refine ⟨_, pe_slice sl_list pa pl ph, fun ρ σ G H Q R h => qa ρ σ G H _ R ((QF.bind h).imp fun d G1 H1 _ x1 q1 v b1 => ?_)⟩
  refine ql ρ σ G1 H1 _ (R.ext x1) ((QF.bind q1).imp fun l G2 H2 _ x2 q2 => ?_)
  refine qh ρ σ G2 H2 _ ((R.ext x1).ext x2) ((QF.bind q2).imp fun u G3 H3 _ x3 q3 => ?_)
  obtain ⟨a, ea, q4⟩ := QG.of x3.sub q3
  cases d with
  | lst xs =>
    cases ea
    obtain ⟨p, vs, rfl, h1, h2⟩ := ((b1.ext x2).ext x3).lst x3.sub
    refine ⟨p, vs, rfl, .of h1, fun p' np => ?_⟩
    exact q4 G3 _ (.own x3.sub np) p' _ np (x3.sub.free np) upd_same (cut_is h2.1 l u) (cut_le h2.2 l u)
  | _ => cases ea
/-- xs[::-1] -/
def fRev (a : PE') : PF' := fun ρ => (a ρ).bind fun x => .of (oRev x)
theorem df_rev {k : Nat} {p1 p2 p3 : Pos} (ha : DB X W e f) : DF X W (.Subscript e (.Slice none none (some (.UnaryOp .USub (.Constant (.int 1) k p1) p2)) p3) pos) (fRev f) := by
  obtain ⟨ta, pa, qa⟩ := ha.ex
  refine ⟨_, pe_revL pa, fun ρ σ G H Q R h => qa ρ σ G H _ R ((QF.bind h).imp fun d G1 H1 _ x1 q1 v b1 => ?_)⟩
  obtain ⟨a, ea, q4⟩ := QG.of x1.sub q1
  cases d with
  | lst xs =>
    cases ea
    obtain ⟨p, vs, rfl, h1, h2⟩ := b1.lst x1.sub
    exact ⟨p, vs, rfl, .of h1, fun p' np => q4 G1 _ (.own x1.sub np) p' _ np (x1.sub.free np) upd_same h2.1.reverse (by rw [List.length_reverse]; exact h2.2)⟩
  | _ => cases ea
end
end Pu
end
section
/-! Pu, the layer: statements, loops, comprehensions, defs. -/
namespace Pu
open PySem PySem.Spec L2
open PyProof.Rows hiding St

/-! ### slots, held lists -/
def Own : Option S → Prop
  | some (.ml _) => True
  | some (.md _) => True
  | some (.mo _ _) => True
  | _ => False
structure Rep (K : PySem.W.Frag) (pn : Addr) (G0 H0 : Hp) (ρ : Rho) (σ : St) (G H : Hp) : Prop where
  rs : RS K ρ σ G H
  ext : Ext G0 H0 G H
  free : ∀ (i : Nat) (p : Addr), Own ρ[i]? → σ[i]? = some (some (.ref p)) → H0 p = none
  dis : ∀ (i j : Nat) (p : Addr), i ≠ j → Own ρ[i]? → Own ρ[j]? → σ[i]? = some (some (.ref p)) → σ[j]? = some (some (.ref p)) → False
  mo : ∀ (i C : Nat) (fs : List (Str × D)), ρ[i]? = some (.mo C fs) → σ[i]? = some (some (.ref pn))
section
variable {K : PySem.W.Frag} {pn : Addr} {G0 H0 G H G' H' : Hp} {ρ : Rho} {σ : St}
theorem Rep.to (R : Rep K pn G0 H0 ρ σ G H) (x : Ext G H G' H') : Rep K pn G0 H0 ρ σ G' H' := ⟨R.rs.ext x, R.ext.trans x, R.free, R.dis, R.mo⟩
/-- an owned slot's object -/
theorem SlR.held {o : Option (Option V)} {s : S} (h : SlR K G H o s) (w : Own (some s)) : ∃ p u, o = some (some (.ref p)) ∧ H p = some u ∧ G p = none := by
  cases s with
  | ml xs => obtain ⟨p, vs, e, h1, h2, _⟩ := h; exact ⟨p, _, e, h1, h2⟩
  | md kvs => obtain ⟨p, vs, e, h1, h2, _⟩ := h; exact ⟨p, _, e, h1, h2⟩
  | mo C fs => obtain ⟨p, dx, vs, e, h1, h2, _⟩ := h; exact ⟨p, _, e, h1, h2⟩
  | _ => exact w.elim
theorem RS.held (R : RS K ρ σ G H) {i : Nat} (w : Own ρ[i]?) : ∃ p u, σ[i]? = some (some (.ref p)) ∧ H p = some u ∧ G p = none := by
  cases q : ρ[i]? with
  | none => rw [q] at w; exact w.elim
  | some s => exact (R.sl i s q).held (q ▸ w)
theorem RS.lt (R : RS K ρ σ G H) {i : Nat} {s : S} (h : ρ[i]? = some s) : i < σ.length := by
  rw [R.len]; exact (List.getElem?_eq_some_iff.mp h).1
theorem RS.set_im (R : RS K ρ σ G H) {i : Nat} {d : D} {v : V} (h : Dat K G d v) : RS K (ρ.set i (.im d)) (σ.set i (some v)) G H := by
  refine ⟨by rw [List.length_set, List.length_set, R.len], R.sub, fun j s e => ?_⟩
  by_cases hj : i = j
  · subst hj
    have hl : i < ρ.length := by
      have := (List.getElem?_eq_some_iff.mp e).1
      rwa [List.length_set] at this
    rw [List.getElem?_set_self hl] at e
    cases e
    exact ⟨v, by rw [List.getElem?_set_self (by rw [R.len]; exact hl)], h⟩
  · rw [List.getElem?_set_ne hj] at e ⊢
    exact R.sl j s e
theorem own_set_im {i j : Nat} {d : D} (h : Own (ρ.set i (.im d))[j]?) : j ≠ i ∧ Own ρ[j]? := by
  by_cases hj : i = j
  · subst hj
    by_cases hl : i < ρ.length
    · rw [List.getElem?_set_self hl] at h; exact h.elim
    · rw [List.getElem?_eq_none (by simpa using hl)] at h; exact h.elim
  · rw [List.getElem?_set_ne hj] at h
    exact ⟨Ne.symm hj, h⟩
theorem Rep.set_im (R : Rep K pn G0 H0 ρ σ G H) {i : Nat} {d : D} {v : V} (h : Dat K G d v) : Rep K pn G0 H0 (ρ.set i (.im d)) (σ.set i (some v)) G H := by
  refine ⟨R.rs.set_im h, R.ext, fun j p w e => ?_, fun j k p n w1 w2 e1 e2 => ?_, fun j C fs e => ?_⟩
  · obtain ⟨h1, h2⟩ := own_set_im w
    rw [List.getElem?_set_ne (Ne.symm h1)] at e
    exact R.free j p h2 e
  · obtain ⟨a1, a2⟩ := own_set_im w1
    obtain ⟨b1, b2⟩ := own_set_im w2
    rw [List.getElem?_set_ne (Ne.symm a1)] at e1
    rw [List.getElem?_set_ne (Ne.symm b1)] at e2
    exact R.dis j k p n a2 b2 e1 e2
  · obtain ⟨h1, _⟩ := own_set_im (ρ := ρ) (i := i) (j := j) (d := d) (by rw [e]; trivial)
    rw [List.getElem?_set_ne (Ne.symm h1)] at e ⊢
    exact R.mo j C fs e
def setV : List Nat → List V → St → St
  | i :: is, v :: vs, σ => setV is vs (σ.set i (some v))
  | _, _, σ => σ
theorem RS.setL : ∀ {is : List Nat} {ds : List D} {vs : List V} {ρ : Rho} {σ : St}, RS K ρ σ G H → Dats K G ds vs → RS K (Pu.setL is ds ρ) (setV is vs σ) G H
  | [], ds, vs, ρ, σ, R, h => by
    have e1 : Pu.setL [] ds ρ = ρ := by cases ds <;> rfl
    have e2 : setV [] vs σ = σ := by cases vs <;> rfl
    rw [e1, e2]; exact R
  | i :: is, [], vs, ρ, σ, R, h => by rw [h.nil_inv]; exact R
  | i :: is, d :: ds, vs, ρ, σ, R, h => by
    obtain ⟨v, r, rfl, h1, h2⟩ := h.cons_inv
    have q := RS.setL (is := is) (R.set_im (i := i) h1) h2
    exact q
theorem Rep.setL : ∀ {is : List Nat} {ds : List D} {vs : List V} {ρ : Rho} {σ : St}, Rep K pn G0 H0 ρ σ G H → Dats K G ds vs → Rep K pn G0 H0 (Pu.setL is ds ρ) (setV is vs σ) G H
  | [], ds, vs, ρ, σ, R, h => by
    have e1 : Pu.setL [] ds ρ = ρ := by cases ds <;> rfl
    have e2 : setV [] vs σ = σ := by cases vs <;> rfl
    rw [e1, e2]; exact R
  | i :: is, [], vs, ρ, σ, R, h => by rw [h.nil_inv]; exact R
  | i :: is, d :: ds, vs, ρ, σ, R, h => by
    obtain ⟨v, r, rfl, h1, h2⟩ := h.cons_inv
    have q := Rep.setL (is := is) (R.set_im (i := i) h1) h2
    exact q
/-- a slot gets an object that it holds -/
theorem Rep.set_own (R : Rep K pn G0 H0 ρ σ G H) (x : Ext G H G' H') {i : Nat} {s : S} {p : Addr} (n : H p = none) (h : SlR K G' H' (some (some (.ref p))) s) (w : Own (some s)) (nm : ∀ C fs, s ≠ .mo C fs) : Rep K pn G0 H0 (ρ.set i s) (σ.set i (some (.ref p))) G' H' := by
  have R1 := R.to x
  have apart : ∀ (j : Nat) (q : Addr), Own ρ[j]? → σ[j]? = some (some (.ref q)) → q ≠ p := fun j q w e z => by
    obtain ⟨a, u, e', h1, _⟩ := R.rs.held w
    rw [e] at e'; cases e'
    rw [z, n] at h1; cases h1
  have split : ∀ {j : Nat} {q : Addr}, Own (ρ.set i s)[j]? → (σ.set i (some (.ref p)))[j]? = some (some (.ref q)) → (j = i ∧ q = p) ∨ (j ≠ i ∧ Own ρ[j]? ∧ σ[j]? = some (some (.ref q))) := fun {j q} w e => by
    by_cases hj : i = j
    · subst hj
      have hl : i < σ.length := by
        by_cases hl : i < σ.length
        · exact hl
        · rw [List.getElem?_eq_none (by simpa using hl)] at e; cases e
      rw [List.getElem?_set_self hl] at e
      cases e
      exact .inl ⟨rfl, rfl⟩
    · rw [List.getElem?_set_ne hj] at w e
      exact .inr ⟨Ne.symm hj, w, e⟩
  refine ⟨⟨by rw [List.length_set, List.length_set, R.rs.len], R1.rs.sub, fun j t e => ?_⟩, R1.ext, fun j q w e => ?_, fun j k q ne w1 w2 e1 e2 => ?_, fun j C fs e => ?_⟩
  · by_cases hj : i = j
    · subst hj
      have hl : i < ρ.length := by
        have := (List.getElem?_eq_some_iff.mp e).1
        rwa [List.length_set] at this
      rw [List.getElem?_set_self hl] at e
      cases e
      rw [List.getElem?_set_self (by rw [R.rs.len]; exact hl)]
      exact h
    · rw [List.getElem?_set_ne hj] at e ⊢
      exact R1.rs.sl j t e
  · rcases split w e with ⟨_, rfl⟩ | ⟨_, w', e'⟩
    · exact R.ext.h.free n
    · exact R.free j q w' e'
  · rcases split w1 e1 with ⟨z1, rfl⟩ | ⟨z1, w1', e1'⟩
    · rcases split w2 e2 with ⟨z2, _⟩ | ⟨z2, w2', e2'⟩
      · exact ne (z1.trans z2.symm)
      · exact apart k q w2' e2' rfl
    · rcases split w2 e2 with ⟨z2, rfl⟩ | ⟨z2, w2', e2'⟩
      · exact apart j q w1' e1' rfl
      · exact R.dis j k q ne w1' w2' e1' e2'
  · by_cases hj : i = j
    · subst hj
      have hl : i < ρ.length := by
        have := (List.getElem?_eq_some_iff.mp e).1
        rwa [List.length_set] at this
      rw [List.getElem?_set_self hl] at e
      exact absurd (Option.some.inj e) (nm C fs)
    · rw [List.getElem?_set_ne hj] at e ⊢
      exact R.mo j C fs e
/-- the object of a slot is changed -/
theorem Rep.write (R : Rep K pn G0 H0 ρ σ G H) {i : Nat} {s s' : S} {p : Addr} {o : HO} (h : ρ[i]? = some s) (w : Own (some s)) (w' : Own (some s')) (e : σ[i]? = some (some (.ref p))) (nx : ∀ fs, H p ≠ some (.xd fs)) (km : ∀ C fs, s' = .mo C fs → ∃ C fs, s = .mo C fs)
    (h' : SlR K G (upd H p o) (some (some (.ref p))) s') : Rep K pn G0 H0 (ρ.set i s') σ G (upd H p o) := by
  obtain ⟨p', u, e', h1, h2⟩ := R.rs.held (show Own ρ[i]? by rw [h]; exact w)
  rw [e] at e'; cases e'
  have hl : i < ρ.length := (List.getElem?_eq_some_iff.mp h).1
  have own : ∀ {j : Nat}, Own (ρ.set i s')[j]? → Own ρ[j]? := fun {j} q => by
    by_cases hj : i = j
    · subst hj; rw [h]; exact w
    · rw [List.getElem?_set_ne hj] at q; exact q
  have gsub : Same G (upd H p o) := fun b x q => by rw [upd_ne (ne_of_none q h2)]; exact R.rs.sub _ _ q
  have pn : H0 p = none := R.free i p (by rw [h]; exact w) e
  refine ⟨⟨by rw [List.length_set, R.rs.len], gsub, fun j t q => ?_⟩, ⟨R.ext.g, fun b x q => by rw [upd_ne (ne_of_none q pn)]; exact R.ext.h _ _ q, gsub, R.ext.fr⟩, fun j q w1 e1 => R.free j q (own w1) e1, fun j k q ne w1 w2 e1 e2 => R.dis j k q ne (own w1) (own w2) e1 e2, fun j C fs q => ?_⟩
  case refine_2 =>
    by_cases hj : i = j
    · subst hj
      rw [List.getElem?_set_self hl] at q
      obtain ⟨C', fs', e2⟩ := km C fs (Option.some.inj q)
      exact R.mo i C' fs' (by rw [h, e2])
    · rw [List.getElem?_set_ne hj] at q
      exact R.mo j C fs q
  by_cases hj : i = j
  · subst hj
    rw [List.getElem?_set_self hl] at q
    cases q
    rw [e]; exact h'
  · rw [List.getElem?_set_ne hj] at q
    have ho := R.rs.sl j t q
    have ap : ∀ r, Own (some t) → σ[j]? = some (some (.ref r)) → r ≠ p := fun r wt er z => by
      subst z
      exact R.dis i j r hj (by rw [h]; exact w) (by rw [q]; exact wt) e er
    cases t with
    | no => trivial
    | im d => exact ho
    | ml xs =>
      obtain ⟨r, vs, er, a1, a2, a3⟩ := ho
      exact ⟨r, vs, er, by rw [upd_ne (ap r trivial er)]; exact a1, a2, a3⟩
    | md kvs =>
      obtain ⟨r, vs, er, a1, a2, a3⟩ := ho
      exact ⟨r, vs, er, by rw [upd_ne (ap r trivial er)]; exact a1, a2, a3⟩
    | mo C fs =>
      obtain ⟨r, dx, vs, er, a1, a2, a3⟩ := ho
      exact ⟨r, dx, vs, er, by rw [upd_ne (ap r trivial er)]; exact a1, a2, a3⟩
    | ex C ns ds =>
      obtain ⟨a, dx, vs, er, a1, a3⟩ := ho
      refine ⟨a, dx, vs, er, ?_, a3⟩
      rw [upd_ne fun z => nx _ (z ▸ a1)]; exact a1
/-- a held list is data from now on -/
theorem Rep.share (R : Rep K pn G0 H0 ρ σ G H) (i : Nat) : ∃ G', Rep K pn G0 H0 (Pu.share i ρ) σ G' H ∧ Same G G' := by
  unfold Pu.share
  cases h : ρ[i]? with
  | none => exact ⟨G, R, Same.refl _⟩
  | some s =>
    cases s with
    | ml xs =>
      obtain ⟨p, vs, e, h1, h2, h3⟩ := R.rs.sl i _ h
      have hl : i < ρ.length := (List.getElem?_eq_some_iff.mp h).1
      have pn : H0 p = none := R.free i p (by rw [h]; trivial) e
      have s1 : Same G (upd G p (.lst vs)) := same_upd h2
      have gsub : Same (upd G p (.lst vs)) H := fun b u r => by
        by_cases hb : b = p
        · subst hb; rw [upd_same] at r; cases r; exact h1
        · rw [upd_ne hb] at r; exact R.rs.sub _ _ r
      refine ⟨upd G p (.lst vs), ⟨⟨by rw [List.length_set, R.rs.len], gsub, fun j t q => ?_⟩, ⟨R.ext.g.trans s1, R.ext.h, gsub, fun a r => ?_⟩, fun j q w1 e1 => R.free j q (own_set_im w1).2 e1, fun j k q ne w1 w2 e1 e2 => R.dis j k q ne (own_set_im w1).2 (own_set_im w2).2 e1 e2, fun j C fs q => ?_⟩, s1⟩
      case refine_3 =>
        obtain ⟨h1, _⟩ := own_set_im (ρ := ρ) (i := i) (j := j) (d := .lst xs) (by rw [q]; trivial)
        rw [List.getElem?_set_ne (Ne.symm h1)] at q
        exact R.mo j C fs q
      · by_cases hj : i = j
        · subst hj
          rw [List.getElem?_set_self hl] at q
          cases q
          exact ⟨_, e, Dat.lst_iff.mpr ⟨p, vs, rfl, upd_same, h3.1.mono s1, h3.2⟩⟩
        · rw [List.getElem?_set_ne hj] at q
          have ho := R.rs.sl j t q
          have ap : ∀ r, Own (some t) → σ[j]? = some (some (.ref r)) → r ≠ p := fun r wt er z => by
            subst z
            exact R.dis i j r hj (by rw [h]; trivial) (by rw [q]; exact wt) e er
          cases t with
          | no => trivial
          | im d => obtain ⟨v, a1, a2⟩ := ho; exact ⟨v, a1, a2.mono s1⟩
          | ml ys =>
            obtain ⟨r, vs, er, a1, a2, a3, a4⟩ := ho
            exact ⟨r, vs, er, a1, by rw [upd_ne (ap r trivial er)]; exact a2, a3.mono s1, a4⟩
          | md kvs =>
            obtain ⟨r, vs, er, a1, a2, a3⟩ := ho
            exact ⟨r, vs, er, a1, by rw [upd_ne (ap r trivial er)]; exact a2, KVs.mono s1 a3⟩
          | mo C fs =>
            obtain ⟨r, dx, vs, er, a1, a2, a3⟩ := ho
            exact ⟨r, dx, vs, er, a1, by rw [upd_ne (ap r trivial er)]; exact a2, a3.mono s1⟩
          | ex C ns ds =>
            obtain ⟨a, dx, vs, er, a1, a3⟩ := ho
            exact ⟨a, dx, vs, er, a1, a3.mono s1⟩
      · by_cases hb : a = p
        · exact .inr (.inl (hb ▸ pn))
        · rw [upd_ne hb] at r; exact R.ext.fr a r
    | _ => exact ⟨G, R, Same.refl _⟩
end

/-! ### statements -/
def QS (K : PySem.W.Frag) (W : WX) (pn : Addr) (G0 H0 G : Hp) (D : Ends) : OS → Prop
  | .stuck => False
  | .nx ρ => ∀ σ G' H', Rep K pn G0 H0 ρ σ G' H' → Same G G' → D.nx σ H'
  | .bk ρ => ∀ σ G' H', Rep K pn G0 H0 ρ σ G' H' → Same G G' → D.bk σ H'
  | .ct ρ => ∀ σ G' H', Rep K pn G0 H0 ρ σ G' H' → Same G G' → D.ct σ H'
  | .ret (.val d) => ∀ v G' H', Ext G0 H0 G' H' → Dat K G' d v → D.rt v H'
  | .ret (.fresh ds) => ∀ p vs G' H', Ext G0 H0 G' H' → H0 p = none → G' p = none → H' p = some (.lst vs) → Dats K G' ds vs → ds.length ≤ line → D.rt (.ref p) H'
  | .exc C ns ds ρ => ∀ σ dx vs G' H', Rep K pn G0 H0 ρ σ G' H' → Same G G' → H' dx = some (.xd (ns.zip vs)) → ns.length = ds.length → Dats K G' ds vs → W (.ref C) (some dx) σ H'
theorem QS.mono {K : PySem.W.Frag} {W : WX} {pn : Addr} {G0 H0 G G1 : Hp} {D : Ends} (s : Same G G1) {o : OS} (h : QS K W pn G0 H0 G D o) : QS K W pn G0 H0 G1 D o := by
  cases o with
  | stuck => exact h
  | nx ρ => exact fun σ G' H' R q => h σ G' H' R (s.trans q)
  | bk ρ => exact fun σ G' H' R q => h σ G' H' R (s.trans q)
  | ct ρ => exact fun σ G' H' R q => h σ G' H' R (s.trans q)
  | ret r => cases r <;> exact h
  | exc C ns ds ρ => exact fun σ dx vs G' H' R q => h σ dx vs G' H' R (s.trans q)
/-- other ends for what follows -/
theorem QS.ends {K : PySem.W.Frag} {W : WX} {pn : Addr} {G0 H0 G : Hp} {D : Ends} {o : OS} {n b c : St → Hp → Prop} (h : ∀ ρ, o = .nx ρ → ∀ σ G' H', Rep K pn G0 H0 ρ σ G' H' → Same G G' → n σ H') (hb : ∀ ρ, o = .bk ρ → ∀ σ G' H', Rep K pn G0 H0 ρ σ G' H' → Same G G' → b σ H')
    (hc : ∀ ρ, o = .ct ρ → ∀ σ G' H', Rep K pn G0 H0 ρ σ G' H' → Same G G' → c σ H') (hr : (∀ ρ, o ≠ .nx ρ) → (∀ ρ, o ≠ .bk ρ) → (∀ ρ, o ≠ .ct ρ) → QS K W pn G0 H0 G D o) : QS K W pn G0 H0 G { D with nx := n, bk := b, ct := c } o := by
  cases o with
  | stuck => exact hr (by simp) (by simp) (by simp)
  | nx ρ => exact h ρ rfl
  | bk ρ => exact hb ρ rfl
  | ct ρ => exact hc ρ rfl
  | ret r =>
    have := hr (by simp) (by simp) (by simp)
    cases r <;> exact this
  | exc C ns ds ρ => exact hr (by simp) (by simp) (by simp)
theorem Xc.of {K : PySem.W.Frag} {W : WX} {pn : Addr} {G0 H0 G H : Hp} {En : Ends} {ρ : Rho} {σ : St} {C : Nat} {ns : List Str} {ds : List D} (R : Rep K pn G0 H0 ρ σ G H) (h : QS K W pn G0 H0 G En (.exc C ns ds ρ)) : Xc K W σ G H C ns ds :=
  fun dx vs G' H' x a b c => h σ dx vs G' H' (R.to x) x.g a b c
theorem QS.op {α : Type} {K : PySem.W.Frag} {W : WX} {pn : Addr} {G0 H0 G H : Hp} {D : Ends} {ρ : Rho} {σ : St} {o : OP α} {k : α → OS} (R : Rep K pn G0 H0 ρ σ G H) (h : QS K W pn G0 H0 G D (opS o ρ k)) :
    QG K W σ G H (fun a G' H' => QS K W pn G0 H0 G' D (k a)) o := by
  cases o with
  | stuck => exact h
  | ok a => exact fun G' H' x => QS.mono x.g (show QS K W pn G0 H0 G D (k a) from h)
  | exc C ns ds => exact Xc.of R h
structure DS (X : Cx) (W : WX) (st : Stmt) (g : SS) : Prop where
  ex : ∃ t : TS, PS X st t ∧ ∀ pn G0 H0 ρ σ G H D, Rep X.K pn G0 H0 ρ σ G H → QS X.K W pn G0 H0 G D (g ρ) → t D σ H
structure DSs (X : Cx) (W : WX) (st : List Stmt) (g : SS) : Prop where
  ex : ∃ t : TS, PSs X st t ∧ ∀ pn G0 H0 ρ σ G H D, Rep X.K pn G0 H0 ρ σ G H → QS X.K W pn G0 H0 G D (g ρ) → t D σ H
section
variable {X : Cx} {W : WX} {e e1 e2 : Expr} {es : List Expr} {f f1 f2 : PE'} {t1 t2 : PT'} {g g1 g2 : SS} {pos : Pos} {st : Stmt} {r r1 r2 : List Stmt}
theorem dss_nil : DSs X W [] sNx := ⟨_, pss_nil, fun pn G0 H0 ρ σ G H D R h => h σ G H R (Same.refl _)⟩
theorem seq_run {t u : TS} (q1 : ∀ pn G0 H0 ρ σ G H D, Rep X.K pn G0 H0 ρ σ G H → QS X.K W pn G0 H0 G D (g1 ρ) → t D σ H) (q2 : ∀ pn G0 H0 ρ σ G H D, Rep X.K pn G0 H0 ρ σ G H → QS X.K W pn G0 H0 G D (g2 ρ) → u D σ H) :
    ∀ pn G0 H0 ρ σ G H D, Rep X.K pn G0 H0 ρ σ G H → QS X.K W pn G0 H0 G D (sSeq g1 g2 ρ) → tSeq t u D σ H := by
  intro pn G0 H0 ρ σ G H D R h
  unfold sSeq at h
  refine q1 pn G0 H0 ρ σ G H { D with nx := u D } R ?_
  cases o : g1 ρ with
  | stuck => rw [o] at h; exact h
  | nx ρ' => rw [o] at h; exact fun σ' G' H' R' s => q2 pn G0 H0 ρ' σ' G' H' D R' (QS.mono s h)
  | bk ρ' => rw [o] at h; exact h
  | ct ρ' => rw [o] at h; exact h
  | ret v => rw [o] at h; cases v <;> exact h
  | exc C ns ds ρ' => rw [o] at h; exact h
theorem dss_cons (h : DS X W st g1) (k : DSs X W r g2) : DSs X W (st :: r) (sSeq g1 g2) := by
  obtain ⟨t, p, q⟩ := h.ex
  obtain ⟨t', p', q'⟩ := k.ex
  exact ⟨_, pss_cons p p', seq_run q q'⟩
theorem dss_one (h : DS X W st g) : DSs X W [st] g := by
  obtain ⟨t, p, q⟩ := h.ex
  exact ⟨_, pss_one p, q⟩
theorem ds_pass : DS X W (.Pass pos) sNx := ⟨_, ps_pass, fun pn G0 H0 ρ σ G H D R h => h σ G H R (Same.refl _)⟩
theorem ds_break : DS X W (.Break pos) sBk := ⟨_, ps_break, fun pn G0 H0 ρ σ G H D R h => h σ G H R (Same.refl _)⟩
theorem ds_continue : DS X W (.Continue pos) sCt := ⟨_, ps_continue, fun pn G0 H0 ρ σ G H D R h => h σ G H R (Same.refl _)⟩
/-- a held list is shared ahead of the statement -/
theorem ds_share (i : Nat) (h : DS X W st g) : DS X W st (sShare i g) := by
  obtain ⟨t, p, q⟩ := h.ex
  refine ⟨t, p, fun pn G0 H0 ρ σ G H D R h => ?_⟩
  obtain ⟨G', R', s⟩ := R.share i
  exact q pn G0 H0 _ σ G' H D R' (QS.mono s h)
theorem ds_expr (h : DP X W e f) (hs : swapsWith e none pos.line X.env = pure false := by rfl) : DS X W (.Expr e pos) (sDrop f) := by
  obtain ⟨t, p, q⟩ := h.ex
  exact ⟨_, ps_expr p hs, fun pn G0 H0 ρ σ G H D R h => q ρ σ G H _ R.rs ((QS.op R h).imp fun d G' H' _ x k v dv => k σ G' H' (R.to x) (Same.refl _))⟩
theorem ds_ret (h : DP X W e f) : DS X W (.Return (some e) pos) (sRet f) := by
  obtain ⟨t, p, q⟩ := h.ex
  exact ⟨_, ps_ret p, fun pn G0 H0 ρ σ G H D R h => q ρ σ G H _ R.rs ((QS.op R h).imp fun d G' H' _ x k v dv => k v G' H' (R.to x).ext dv)⟩
theorem ds_retF {f : PF'} (h : DF X W e f) : DS X W (.Return (some e) pos) (sRetF f) := by
  obtain ⟨t, p, q⟩ := h.ex
  refine ⟨_, ps_ret p, fun pn G0 H0 ρ σ G H D R h => q ρ σ G H _ R.rs ((QS.op R h).imp fun ds G' H' _ x k a vs n g l dv le => ?_)⟩
  exact k a vs G' H' (R.to x).ext (R.ext.h.free n) g l dv le
theorem ds_retM (i : Nat) {x : Str} {pos' : Pos} (hN : X.N[i]? = some x := by rfl) (hv : Vis X.env.scope x := by first | exact Or.inl rfl | exact Or.inr (Or.inl rfl) | exact Or.inr (Or.inr rfl)) (hd : (x == ("__debug__" : Str)) = false := by decide)
    (hcd : (x == ("__classdict__" : Str)) = false := by decide) : DS X W (.Return (some (.Name x pos')) pos) (sRetM i) := by
  refine ⟨_, ps_ret (pe_var hN hv hd hcd), fun pn G0 H0 ρ σ G H D R h => ?_⟩
  unfold sRetM at h
  cases q : ρ[i]? with
  | none => rw [q] at h; exact h.elim
  | some s =>
    rw [q] at h
    cases s with
    | ml xs =>
      obtain ⟨p, vs, e, h1, h2, h3⟩ := R.rs.sl i _ q
      exact ⟨_, e, h p vs G H R.ext (R.free i p (by rw [q]; trivial) e) h2 h1 h3.1 h3.2⟩
    | _ => exact h.elim
theorem ds_retN : DS X W (.Return none pos) (fun _ => .ret (.val .non)) := ⟨_, ps_retN, fun pn G0 H0 ρ σ G H D R h => h _ G H R.ext (Dat.non_iff.mpr rfl)⟩
theorem ds_if (h : DT X W e t1) (ha : DSs X W r1 g1) (hb : DSs X W r2 g2) : DS X W (.If e r1 r2 pos) (sIf t1 g1 g2) := by
  obtain ⟨t, p, q⟩ := h.ex
  obtain ⟨ta, pa, qa⟩ := ha.ex
  obtain ⟨tb, pb, qb⟩ := hb.ex
  refine ⟨_, ps_if p pa pb, fun pn G0 H0 ρ σ G H D R h => ?_⟩
  unfold sIf at h
  refine q ρ σ G H _ R.rs ?_
  cases o : t1 ρ with
  | stuck => rw [o] at h; exact h
  | exc C ns ds => rw [o] at h; exact Xc.of R h
  | ok b =>
    rw [o] at h
    intro G' H' x
    cases b with
    | true => rw [if_pos rfl]; exact qa pn G0 H0 ρ σ G' H' D (R.to x) (QS.mono x.g h)
    | false => rw [if_neg Bool.false_ne_true]; exact qb pn G0 H0 ρ σ G' H' D (R.to x) (QS.mono x.g h)
/-! ### assignments -/
theorem ds_set (i : Nat) {x : Str} {pos' : Pos} (h : DP X W e f) (hN : X.N.Nodup) (hi : X.N[i]? = some x := by rfl) (hx : Loc X.env.scope x := by first | exact Or.inl rfl | exact Or.inr rfl) (hs : swapsWith e (some (.Name x pos')) pos.line X.env = pure false := by rfl) (hf : X.fn x = true ∨ X.env.scope.names.lookup x = some .local := by first | exact .inl rfl | exact .inr rfl) :
    DS X W (.Assign [.Name x pos'] e pos) (sAsg (gN i) f) := by
  obtain ⟨t, p, q⟩ := h.ex
  exact ⟨_, ps_set hN hi hx p hs hf, fun pn G0 H0 ρ σ G H D R h => q ρ σ G H _ R.rs ((QS.op R h).imp fun d G' H' _ x k v dv => k _ G' H' ((R.to x).set_im dv) (Same.refl _))⟩
theorem ds_setF (i : Nat) {x : Str} {pos' : Pos} {f : PF'} (h : DF X W e f) (hN : X.N.Nodup) (hi : X.N[i]? = some x := by rfl) (hx : Loc X.env.scope x := by first | exact Or.inl rfl | exact Or.inr rfl) (hs : swapsWith e (some (.Name x pos')) pos.line X.env = pure false := by rfl) (hf : X.fn x = true ∨ X.env.scope.names.lookup x = some .local := by first | exact .inl rfl | exact .inr rfl) :
    DS X W (.Assign [.Name x pos'] e pos) (sAsgF i f) := by
  obtain ⟨t, p, q⟩ := h.ex
  refine ⟨_, ps_set hN hi hx p hs hf, fun pn G0 H0 ρ σ G H D R h => q ρ σ G H _ R.rs ((QS.op R h).imp fun ds G' H' _ x k a vs n g l dv le => ?_)⟩
  exact k _ G' H' (R.set_own x n ⟨a, vs, rfl, l, g, dv, le⟩ trivial (by simp)) (Same.refl _)
/-- targets -/
structure DG (X : Cx) (tg : Expr) (g : TG') : Prop where
  ex : ∃ t : TG, PG X tg t ∧ ∀ (ρ ρ' : Rho) (σ : St) (G H : Hp) (d : D) (v : V) (Q : St → Hp → Prop), Same G H → Dat X.K G d v → g d ρ = some ρ' →
    (∀ σ', (RS X.K ρ σ G H → RS X.K ρ' σ' G H) → (∀ pn G0 H0, Rep X.K pn G0 H0 ρ σ G H → Rep X.K pn G0 H0 ρ' σ' G H) → Q σ' H) → t v σ H Q
theorem dg_n (i : Nat) {x : Str} (hN : X.N.Nodup) (hi : X.N[i]? = some x := by rfl) (hx : Loc X.env.scope x := by first | exact Or.inl rfl | exact Or.inr rfl) (hf : X.fn x = true ∨ X.env.scope.names.lookup x = some .local := by first | exact .inl rfl | exact .inr rfl) : DG X (.Name x pos) (gN i) := by
  refine ⟨_, pg_name hN hi hx hf, fun ρ ρ' σ G H d v Q s dv e k => ?_⟩
  cases e
  exact k _ (fun R => R.set_im dv) fun pn G0 H0 R => R.set_im dv
end
end Pu
end
section
/-! Pu, the layer: targets, loops, comprehensions. -/
namespace Pu
open PySem PySem.Spec L2
open PyProof.Rows hiding St
section
variable {X : Cx} {W : WX} {e e1 e2 : Expr} {es : List Expr} {f f1 f2 : PE'} {t1 t2 : PT'} {g g1 g2 : SS} {pos : Pos} {st : Stmt} {r r1 r2 : List Stmt}
/-- names of a tuple target with their slots -/
def Nms (X : Cx) : List Expr → List Nat → Prop
  | [], [] => True
  | e :: es, i :: is => PG X e (gName i) ∧ ((assignEach (e :: es) X.env).map (·.2) = assign e X.env :: (assignEach es X.env).map (·.2)) ∧ Nms X es is
  | _, _ => False
theorem nms_nil : Nms X [] [] := trivial
theorem nms_cons {i : Nat} {x : Str} {is : List Nat} (hN : X.N.Nodup) (k : Nms X es is) (hi : X.N[i]? = some x := by rfl) (hx : Loc X.env.scope x := by first | exact Or.inl rfl | exact Or.inr rfl) (hf : X.fn x = true ∨ X.env.scope.names.lookup x = some .local := by first | exact .inl rfl | exact .inr rfl)
    (hs : (assignEach (.Name x pos :: es) X.env).map (·.2) = assign (.Name x pos) X.env :: (assignEach es X.env).map (·.2) := by rfl) : Nms X (.Name x pos :: es) (i :: is) := ⟨pg_name hN hi hx hf, hs, k⟩
theorem Nms.run : ∀ {es : List Expr} {is : List Nat}, Nms X es is → ∃ t : TGs, PGs X es t ∧ ∀ (vs : List V) (σ : St) (H : Hp) (Q : St → Hp → Prop), vs.length = is.length → Q (setV is vs σ) H → t vs σ H Q
  | [], [], _ => ⟨_, pgs_nil, fun vs σ H Q hl q => by
      cases vs with
      | nil => exact ⟨rfl, q⟩
      | cons v vs => simp at hl⟩
  | e :: es, i :: is, ⟨h1, h2, h3⟩ => by
    obtain ⟨t, p, k⟩ := Nms.run h3
    refine ⟨_, pgs_cons h1 p h2, fun vs σ H Q hl q => ?_⟩
    cases vs with
    | nil => simp at hl
    | cons v vs => exact ⟨v, vs, rfl, k vs _ H Q (by simpa using hl) q⟩
  | [], _ :: _, h => h.elim
  | _ :: _, [], h => h.elim
theorem setV_len : ∀ (is : List Nat) (vs : List V) (σ : St), (setV is vs σ).length = σ.length
  | [], vs, σ => by cases vs <;> rfl
  | i :: is, [], σ => rfl
  | i :: is, v :: vs, σ => by
    show (setV is vs _).length = _
    rw [setV_len is vs, List.length_set]
theorem dg_t {is : List Nat} {k : Nat} (hc : X.calm = true) (h : Nms X es is) (hn : (assignEach es X.env).length = is.length := by rfl) (hst : (assignEach es X.env).findIdx? (·.1) = none := by rfl) : DG X (.Tuple es k pos) (gT is) := by
  obtain ⟨t, p, q⟩ := h.run
  refine ⟨_, pg_tup hc p hn hst, fun ρ ρ' σ G H d v Q s dv e z => ?_⟩
  unfold gT at e
  cases d with
  | tup ds =>
    dsimp only at e
    by_cases hl : ds.length = is.length
    · rw [if_pos hl] at e
      cases e
      obtain ⟨a, vs, rfl, h1, h2⟩ := Dat.tup_iff.mp dv
      have hv : vs.length = is.length := by rw [← h2.1.len]; exact hl
      exact ⟨a, vs, rfl, .of (s _ _ h1), hv, q vs σ H Q hv (z _ (fun R => R.setL h2.1) fun pn G0 H0 R => R.setL h2.1)⟩
    · rw [if_neg hl] at e; cases e
  | _ => cases e
theorem ds_asgT {tg : Expr} {g : TG'} (h : DP X W e f) (k : DG X tg g) (hs : swapsWithSole [tg] e pos.line X.env = pure false := by rfl) (hw : swappedStores [tg] e X.env = pure none := by rfl)
    (h1 : (assignEach [tg] X.env).map (·.2) = [assign tg X.env] := by rfl) : DS X W (.Assign [tg] e pos) (sAsg g f) := by
  obtain ⟨t, p, q⟩ := h.ex
  obtain ⟨t', p', q'⟩ := k.ex
  refine ⟨_, ps_asg p p' hs hw h1, fun pn G0 H0 ρ σ G H D R h => q ρ σ G H _ R.rs ((QS.op R h).imp fun d G' H' _ x k v dv => ?_)⟩
  cases ho : g d ρ with
  | none => rw [ho] at k; exact k.elim
  | some ρ' =>
    rw [ho] at k
    exact q' ρ ρ' σ G' H' d v _ x.sub dv ho fun σ' _ k2 => k σ' G' H' (k2 pn G0 H0 (R.to x)) (Same.refl _)

/-! ### what is walked -/
/-- J gives the data xs, as long as G stands -/
structure Itd (K : PySem.W.Frag) (G : Hp) (J : It) (xs : List D) : Prop where
  go : ∀ (i : Nat) (H : Hp), Same G H → i < xs.length → J.go i H
  stop : ∀ (H : Hp), Same G H → J.stop xs.length H
  yld : ∀ (i : Nat) (G1 H : Hp) (v : V) (H' : Hp) (d : D), Same G G1 → Same G1 H → xs[i]? = some d → J.yld i H v H' → ∃ G2, Ext G1 H G2 H' ∧ Dat K G2 d v
structure DI (X : Cx) (W : WX) (tg iter : Expr) (f : PF') : Prop where
  ex : ∃ wi : TI, PI X tg iter wi ∧ ∀ ρ σ G H (R : It → Hp → Prop), RS X.K ρ σ G H → QG X.K W σ G H (fun xs G' H' => xs.length ≤ line → ∀ J, Itd X.K G' J xs → R J H') (f ρ) → wi σ H R
  fold : ∀ x, foldedSetIterable iter X.env x = pure x
theorem itd_list {K : PySem.W.Frag} {G : Hp} {a : Addr} {vs : List V} {xs : List D} (h : G a = some (.lst vs)) (r : Dats K G xs vs) : Itd K G (Itl K a) xs where
  go := fun i H s hi => by
    obtain ⟨v, e, _⟩ := r.get (List.getElem?_eq_getElem hi)
    exact ⟨vs, v, .of (s _ _ h), e⟩
  stop := fun H s => ⟨vs, .of (s _ _ h), by rw [r.len]; exact Nat.le_refl _⟩
  yld := fun i G1 H v H' d s1 s2 e y => by
    obtain ⟨e1, y⟩ := y
    subst e1
    have q := y vs (.of (s2 _ _ (s1 _ _ h)))
    obtain ⟨w, e2, dw⟩ := r.get e
    rw [q] at e2; cases e2
    exact ⟨G1, .refl s2, dw.mono s1⟩
theorem itd_tup {K : PySem.W.Frag} {G : Hp} {a : Addr} {vs : List V} {xs : List D} (h : G a = some (.tup vs)) (r : Dats K G xs vs) : Itd K G (Itt K a) xs where
  go := fun i H s hi => by
    obtain ⟨v, e, _⟩ := r.get (List.getElem?_eq_getElem hi)
    exact ⟨vs, v, .of (s _ _ h), e⟩
  stop := fun H s => ⟨vs, .of (s _ _ h), by rw [r.len]; exact Nat.le_refl _⟩
  yld := fun i G1 H v H' d s1 s2 e y => by
    obtain ⟨e1, y⟩ := y
    subst e1
    have q := y vs (.of (s2 _ _ (s1 _ _ h)))
    obtain ⟨w, e2, dw⟩ := r.get e
    rw [q] at e2; cases e2
    exact ⟨G1, .refl s2, dw.mono s1⟩
theorem itd_tux {K : PySem.W.Frag} {G : Hp} {a : Addr} {o : Obj} {vs : List V} {xs : List D} (h : G a = some (.frz o (.tup vs))) (r : Dats K G xs vs) : Itd K G (Itt K a) xs where
  go := fun i H s hi => by
    obtain ⟨v, e, _⟩ := r.get (List.getElem?_eq_getElem hi)
    exact ⟨vs, v, .frz (s _ _ h), e⟩
  stop := fun H s => ⟨vs, .frz (s _ _ h), by rw [r.len]; exact Nat.le_refl _⟩
  yld := fun i G1 H v H' d s1 s2 e y => by
    obtain ⟨e1, y⟩ := y
    subst e1
    have q := y vs (.frz (s2 _ _ (s1 _ _ h)))
    obtain ⟨w, e2, dw⟩ := r.get e
    rw [q] at e2; cases e2
    exact ⟨G1, .refl s2, dw.mono s1⟩
theorem rng_len (lo : Int) (n : Nat) : (rng lo n).length = n := by unfold rng; rw [List.length_map, List.length_range]
theorem rng_get {lo : Int} {n i : Nat} {d : D} (h : (rng lo n)[i]? = some d) : i < n ∧ d = .int (lo + (i : Int)) := by
  have hl := (List.getElem?_eq_some_iff.mp h).1
  rw [rng_len] at hl
  refine ⟨hl, ?_⟩
  unfold rng at h
  rw [List.getElem?_map, List.getElem?_range hl] at h
  cases h; rfl
theorem itd_range {K : PySem.W.Frag} {G : Hp} {lo : Int} {n : Nat} : Itd K G (Itr lo n) (rng lo n) where
  go := fun i H s hi => by rw [rng_len] at hi; exact hi
  stop := fun H s => by rw [rng_len]; exact Nat.le_refl n
  yld := fun i G1 H v H' d s1 s2 e y => by
    obtain ⟨e1, e2⟩ := y
    subst e1
    obtain ⟨_, rfl⟩ := rng_get e
    exact ⟨G1, .refl s2, Dat.int_iff.mpr e2⟩
/-- a list or a tuple -/
def iSeq (K : PySem.W.Frag) (tl : TE) : TI := fun σ H R => tl σ H fun x H1 => ∃ a, x = .ref a ∧ ((∃ xs, SqL K H1 a xs ∧ R (Itl K a) H1) ∨ (∃ xs, SqT K H1 a xs ∧ R (Itt K a) H1))
theorem pi_seq {tg l : Expr} {tl : TE} (hl : PE X l tl) : PI X tg l (iSeq X.K tl) := by
  refine ⟨fun pins s σ H R I h => ?_⟩
  refine thn (hl.run pins s σ H _ I h) fun v s1 ⟨x, H1, I1, r1, q1⟩ => ?_
  obtain ⟨a, e, q⟩ := q1
  subst e
  cases r1
  have fresh : ∀ b ∈ [s1.heap.objs.size], FpOk X pins H1 b := fun b hb => by
    have e : b = s1.heap.objs.size := by simpa using hb
    subst e
    exact I1.fpOk (Nat.le_refl _) (I1.hok.fresh (Nat.le_refl _))
  rcases q with ⟨xs, hq, q⟩ | ⟨xs, hq, q⟩
  · obtain ⟨its, rv, p, hz⟩ := I1.list hq
    refine wpAny_pyIter_list p.isList ?_
    exact ⟨s1.heap.objs.size, [s1.heap.objs.size], _, _, H1, rfl, I1.kept (t' := s1.toks) fun b o e => Heap.get?_push_of_some _ e, turn_list a _, ⟨_, Heap.get?_push_size _ rfl, rfl, rfl⟩, fresh, q⟩
  · obtain ⟨its, rv, p, hz⟩ := I1.tuple hq
    refine wpAny_pyIter_tuple (show s1.heap.IsTuple a its.toArray from p) ?_
    exact ⟨s1.heap.objs.size, [s1.heap.objs.size], _, _, H1, rfl, I1.kept (t' := s1.toks) fun b o e => Heap.get?_push_of_some _ e, turn_tuple a _, ⟨_, Heap.get?_push_size _ rfl, rfl, rfl⟩, fresh, q⟩
def iSq (a : PE') : PF' := fun ρ => (a ρ).bind fun x => .of x.seq?
theorem di_seq {tg : Expr} (h : DP X W e f) (hs : ∀ x, foldedSetIterable e X.env x = pure x := by intro _; rfl) : DI X W tg e (iSq f) := by
  refine ⟨?_, hs⟩
  obtain ⟨t, p, q⟩ := h.ex
  refine ⟨_, pi_seq p, fun ρ σ G H R I h => q ρ σ G H _ I (QG.imp (QG.bind h) fun d G' H' _ x k v dv => ?_)⟩
  obtain ⟨xs, ex, k2⟩ := QG.of x.sub k
  cases d with
  | lst ds =>
    cases ex
    obtain ⟨a, vs, rfl, h1, h2⟩ := Dat.lst_iff.mp dv
    exact ⟨a, rfl, .inl ⟨vs, .of (x.sub _ _ h1), k2 G' H' (.refl x.sub) h2.2 _ (itd_list h1 h2.1)⟩⟩
  | tup ds =>
    cases ex
    obtain ⟨a, vs, rfl, h1, h2⟩ := Dat.tup_iff.mp dv
    exact ⟨a, rfl, .inr ⟨vs, .of (x.sub _ _ h1), k2 G' H' (.refl x.sub) h2.2 _ (itd_tup h1 h2.1)⟩⟩
  | tux ds =>
    cases ex
    obtain ⟨a, o, vs, rfl, h1, _, h2⟩ := Dat.tux_iff.mp dv
    exact ⟨a, rfl, .inr ⟨vs, .frz (x.sub _ _ h1), k2 G' H' (.refl x.sub) h2.2 _ (itd_tux h1 h2.1)⟩⟩
  | _ => cases ex
def iRg (as : List PE') : PF' := fN oRange as
theorem dats1 {K : PySem.W.Frag} {G : Hp} {d : D} {vs : List V} (h : Dats K G [d] vs) : ∃ v, vs = [v] ∧ Dat K G d v := by
  obtain ⟨v, r, rfl, h1, h2⟩ := h.cons_inv
  rw [h2.nil_inv]; exact ⟨v, rfl, h1⟩
theorem dats2 {K : PySem.W.Frag} {G : Hp} {d d' : D} {vs : List V} (h : Dats K G [d, d'] vs) : ∃ v w, vs = [v, w] ∧ Dat K G d v ∧ Dat K G d' w := by
  obtain ⟨v, r, rfl, h1, h2⟩ := h.cons_inv
  obtain ⟨w, rfl, h3⟩ := dats1 h2
  exact ⟨v, w, rfl, h1, h3⟩
theorem okR_iff {i : Int} (h : okR i = true) : -(2 ^ 62) ≤ i ∧ i < 2 ^ 62 := of_decide_eq_true h
theorem di_range1 {tg : Expr} {p : Pos} (hm : X.mg "range" = none) (h : DA X W [e] (pArgs [f])) (hg : Gl X "range" := by rfl) (hs : starEach [e] X.env = [(false, eval e X.env)] := by rfl)
    (hf : ∀ x, foldedSetIterable (.Call (.Name "range" p) [e] [] pos) X.env x = pure x := by intro _; rfl) : DI X W tg (.Call (.Name "range" p) [e] [] pos) (iRg [f]) := by
  refine ⟨?_, hf⟩
  obtain ⟨t, p, q⟩ := h.ex
  refine ⟨_, pi_range1 hg hm p hs, fun ρ σ G H R I h => q ρ σ G H _ I (QG.imp (QG.bind h) fun ds G' H' ho x k vs dv => ?_)⟩
  obtain ⟨xs, ex, k2⟩ := QG.of x.sub k
  match ds, ex with
  | [.int j], ex =>
    obtain ⟨v, rfl, hv⟩ := dats1 dv
    have ex' : (if okR j && decide (j.toNat ≤ line) then some (rng 0 j.toNat) else none) = some xs := ex
    by_cases c : (okR j && decide (j.toNat ≤ line)) = true
    · rw [if_pos c] at ex'
      cases ex'
      rw [Bool.and_eq_true, decide_eq_true_eq] at c
      exact ⟨j, by rw [Dat.int_iff.mp hv], (okR_iff c.1).1, (okR_iff c.1).2, k2 G' H' (.refl x.sub) (by rw [rng_len]; exact c.2) _ itd_range⟩
    · rw [if_neg c] at ex'; cases ex'
  | [.int i, .int j], ex =>
    exfalso
    unfold pArgs at ho
    cases hf : f ρ with
    | stuck => rw [hf] at ho; cases ho
    | exc C ns ds => rw [hf] at ho; cases ho
    | ok d => rw [hf] at ho; cases ho
theorem di_range2 {tg : Expr} {p : Pos} (hm : X.mg "range" = none) (h : DA X W [e1, e2] (pArgs [f1, f2])) (hg : Gl X "range" := by rfl) (hs : starEach [e1, e2] X.env = [(false, eval e1 X.env), (false, eval e2 X.env)] := by rfl) (hs2 : starEach [e2] X.env = [(false, eval e2 X.env)] := by rfl)
    (hf : ∀ x, foldedSetIterable (.Call (.Name "range" p) [e1, e2] [] pos) X.env x = pure x := by intro _; rfl) : DI X W tg (.Call (.Name "range" p) [e1, e2] [] pos) (iRg [f1, f2]) := by
  refine ⟨?_, hf⟩
  obtain ⟨t, p, q⟩ := h.ex
  refine ⟨_, pi_range2 hg hm p hs hs2, fun ρ σ G H R I h => q ρ σ G H _ I (QG.imp (QG.bind h) fun ds G' H' ho x k vs dv => ?_)⟩
  obtain ⟨xs, ex, k2⟩ := QG.of x.sub k
  match ds, ex with
  | [.int i, .int j], ex =>
    obtain ⟨v, w, rfl, hv, hw⟩ := dats2 dv
    have ex' : (if okR i && okR j && decide ((j - i).toNat ≤ line) then some (rng i (j - i).toNat) else none) = some xs := ex
    by_cases c : (okR i && okR j && decide ((j - i).toNat ≤ line)) = true
    · rw [if_pos c] at ex'
      cases ex'
      rw [Bool.and_eq_true, Bool.and_eq_true, decide_eq_true_eq] at c
      exact ⟨i, j, by rw [Dat.int_iff.mp hv, Dat.int_iff.mp hw], ⟨(okR_iff c.1.1).1, (okR_iff c.1.1).2, (okR_iff c.1.2).1, (okR_iff c.1.2).2⟩, k2 G' H' (.refl x.sub) (by rw [rng_len]; exact c.2) _ itd_range⟩
    · rw [if_neg c] at ex'; cases ex'
  | [.int j], ex =>
    exfalso
    unfold pArgs pArgs pArgs at ho
    cases hf : f1 ρ with
    | stuck => rw [hf] at ho; cases ho
    | exc C ns ds => rw [hf] at ho; cases ho
    | ok d =>
      rw [hf] at ho
      cases hf2 : f2 ρ with
      | stuck => rw [hf2] at ho; cases ho
      | exc C ns ds => rw [hf2] at ho; cases ho
      | ok d => rw [hf2] at ho; cases ho

/-! ### for -/
theorem loop_nil {g : TG'} {b : SS} {ρ : Rho} : loop g b [] ρ = .nx ρ := rfl
theorem ds_for {tg iter : Expr} {body : List Stmt} {g : TG'} {fi : PF'} {b : SS} (hp : PassesOwn (model X.prog X.w) X.A X.env X.xe) (hc : X.calm = true) (hi : DI X W tg iter fi) (hg : DG X tg g) (hb : DSs X W body b) : DS X W (.For tg iter body [] pos) (sFor g fi b) := by
  obtain ⟨wi, p1, q1⟩ := hi.ex
  obtain ⟨t2, p2, q2⟩ := hg.ex
  obtain ⟨t3, p3, q3⟩ := hb.ex
  refine ⟨_, ps_for hp hc p1 p2 p3 hi.fold, fun pn G0 H0 ρ σ G H D R h => q1 ρ σ G H _ R.rs ((QS.op R h).imp fun xs G1 H1 _ x1 k _ J hJ => ?_)⟩
  refine ⟨fun i m σ' H' => m = xs.length - i ∧ i ≤ xs.length ∧ ∃ G2 ρ2, Rep X.K pn G0 H0 ρ2 σ' G2 H' ∧ Same G1 G2 ∧ QS X.K W pn G0 H0 G2 D (loop g b (xs.drop i) ρ2), ⟨_, rfl, Nat.zero_le _, G1, ρ, R.to x1, Same.refl _, k⟩, ?_⟩
  rintro i m σ2 H2 ⟨rfl, hi', G2, ρ2, R2, s2, k2⟩
  by_cases hlt : i < xs.length
  · have hd : xs.drop i = xs[i] :: xs.drop (i + 1) := List.drop_eq_getElem_cons hlt
    rw [hd] at k2
    refine .inr ⟨hJ.go i H2 (s2.trans R2.rs.sub) hlt, fun σ' H' => ∃ G' ρ', Rep X.K pn G0 H0 ρ' σ' G' H' ∧ Same G1 G' ∧ QS X.K W pn G0 H0 G' D (loop g b (xs.drop (i + 1)) ρ'), fun σ' H' ⟨G', ρ', a, b, c⟩ => ⟨_, by omega, rfl, hlt, G', ρ', a, b, c⟩, fun v H' y => ?_⟩
    obtain ⟨G3, x3, dv⟩ := hJ.yld i G2 H2 v H' xs[i] s2 R2.rs.sub (List.getElem?_eq_getElem hlt) y
    unfold loop at k2
    cases hgo : g xs[i] ρ2 with
    | none => rw [hgo] at k2; exact k2.elim
    | some ρ3 =>
      rw [hgo] at k2
      dsimp only at k2
      refine q2 ρ2 ρ3 σ2 G3 H' xs[i] v _ x3.sub dv hgo fun σ3 _ R3 => ?_
      refine q3 pn G0 H0 ρ3 σ3 G3 H' _ (R3 pn G0 H0 (R2.to x3)) ?_
      have s3 : Same G1 G3 := s2.trans x3.g
      cases ho : b ρ3 with
      | stuck => rw [ho] at k2; exact k2.elim
      | nx ρ4 =>
        rw [ho] at k2
        exact fun σ4 G4 H4 R4 s4 => ⟨G4, ρ4, R4, s3.trans s4, QS.mono (x3.g.trans s4) k2⟩
      | ct ρ4 =>
        rw [ho] at k2
        exact fun σ4 G4 H4 R4 s4 => ⟨G4, ρ4, R4, s3.trans s4, QS.mono (x3.g.trans s4) k2⟩
      | bk ρ4 =>
        rw [ho] at k2
        exact fun σ4 G4 H4 R4 s4 => k2 σ4 G4 H4 R4 (x3.g.trans s4)
      | ret v => rw [ho] at k2; cases v <;> exact k2
      | exc C ns ds ρ4 => rw [ho] at k2; exact QS.mono x3.g k2
  · have e : i = xs.length := by omega
    subst e
    rw [List.drop_length] at k2
    exact .inl ⟨hJ.stop H2 (s2.trans R2.rs.sub), k2 σ2 G2 H2 R2 (Same.refl _)⟩
theorem ds_while {c : Expr} {body : List Stmt} {b : SS} {t : PT'} (fuel : Rho → Nat) (hp : PassesOwn (model X.prog X.w) X.A X.env X.xe) (hc : DT X W c t) (hb : DSs X W body b) : DS X W (.While c body [] pos) (sWhile fuel t b) := by
  obtain ⟨t1, p1, q1⟩ := hc.ex
  obtain ⟨t3, p3, q3⟩ := hb.ex
  refine ⟨_, ps_while hp p1 p3, fun pn G0 H0 ρ σ G H D R h => ?_⟩
  refine ⟨fun m σ' H' => ∃ G2 ρ2, Rep X.K pn G0 H0 ρ2 σ' G2 H' ∧ QS X.K W pn G0 H0 G2 D (whileL t b m ρ2), ⟨_, G, ρ, R, h⟩, ?_⟩
  rintro m σ2 H2 ⟨G2, ρ2, R2, k2⟩
  cases m with
  | zero => exact k2.elim
  | succ m =>
    unfold whileL at k2
    refine q1 ρ2 σ2 G2 H2 _ R2.rs ?_
    cases o : t ρ2 with
    | stuck => rw [o] at k2; exact k2
    | exc C ns ds => rw [o] at k2; exact Xc.of R2 k2
    | ok c =>
      rw [o] at k2
      intro G3 H3 x3
      cases c with
      | false =>
        rw [if_neg Bool.false_ne_true]
        exact k2 σ2 G3 H3 (R2.to x3) x3.g
      | true =>
        rw [if_pos rfl]
        refine ⟨fun σ' H' => ∃ G' ρ', Rep X.K pn G0 H0 ρ' σ' G' H' ∧ QS X.K W pn G0 H0 G' D (whileL t b m ρ'), fun σ' H' q => ⟨m, Nat.lt_succ_self _, q⟩, ?_⟩
        refine q3 pn G0 H0 ρ2 σ2 G3 H3 _ (R2.to x3) ?_
        dsimp only at k2
        cases ho : b ρ2 with
        | stuck => rw [ho] at k2; exact k2.elim
        | nx ρ4 => rw [ho] at k2; exact fun σ4 G4 H4 R4 s4 => ⟨G4, ρ4, R4, QS.mono (x3.g.trans s4) k2⟩
        | ct ρ4 => rw [ho] at k2; exact fun σ4 G4 H4 R4 s4 => ⟨G4, ρ4, R4, QS.mono (x3.g.trans s4) k2⟩
        | bk ρ4 => rw [ho] at k2; exact fun σ4 G4 H4 R4 s4 => k2 σ4 G4 H4 R4 (x3.g.trans s4)
        | ret v => rw [ho] at k2; cases v <;> exact k2
        | exc C ns ds ρ4 => rw [ho] at k2; exact QS.mono x3.g k2
end
end Pu
end
section
/-! Pu, the layer: comprehensions, append, calls, defs. -/
namespace Pu
open PySem PySem.Spec L2
open PyProof.Rows hiding St

/-! ### comprehensions -/
theorem wipe_at (σ : St) : ∀ (vs : List Nat) (j : Nat), (wipe σ vs)[j]? = if j ∈ vs then (if j < σ.length then some none else none) else σ[j]?
  | [], j => by simp [wipe]
  | v :: vs, j => by
    unfold wipe
    by_cases hj : v = j
    · subst hj
      rw [if_pos List.mem_cons_self]
      by_cases hl : v < σ.length
      · rw [List.getElem?_set_self (by rw [wipe_length]; exact hl), if_pos hl]
      · rw [List.getElem?_eq_none (by rw [List.length_set, wipe_length]; omega), if_neg hl]
    · rw [List.getElem?_set_ne hj, wipe_at σ vs j]
      have : (j ∈ v :: vs) ↔ j ∈ vs := by
        rw [List.mem_cons]
        exact ⟨fun h => h.resolve_left (fun e => hj e.symm), .inr⟩
      simp only [this]
theorem wipe_set {σ : St} {i : Nat} {x : Option V} {vs : List Nat} (h : i ∈ vs) : wipe (σ.set i x) vs = wipe σ vs := by
  apply List.ext_getElem?
  intro j
  rw [wipe_at, wipe_at, List.length_set]
  by_cases hj : j ∈ vs
  · rw [if_pos hj, if_pos hj]
  · rw [if_neg hj, if_neg hj, List.getElem?_set_ne (fun e => hj (by rw [← e]; exact h))]
theorem wipe_wipe (σ : St) (vs : List Nat) : wipe (wipe σ vs) vs = wipe σ vs := by
  apply List.ext_getElem?
  intro j
  rw [wipe_at, wipe_at, wipe_length]
  by_cases hj : j ∈ vs
  · rw [if_pos hj, if_pos hj]
  · rw [if_neg hj]
theorem wipe_setV {vs : List Nat} : ∀ {is : List Nat} {xs : List V} {σ : St}, (∀ i ∈ is, i ∈ vs) → wipe (setV is xs σ) vs = wipe σ vs
  | [], xs, σ, _ => by cases xs <;> rfl
  | i :: is, [], σ, _ => rfl
  | i :: is, x :: xs, σ, h => by
    show wipe (setV is xs (σ.set i (some x))) vs = _
    rw [wipe_setV fun j hj => h j (List.mem_cons_of_mem _ hj), wipe_set (h i List.mem_cons_self)]
theorem wipeR_len (ρ : Rho) : ∀ vs : List Nat, (wipeR ρ vs).length = ρ.length
  | [] => rfl
  | v :: vs => by unfold wipeR; rw [List.length_set, wipeR_len ρ vs]
theorem wipeR_at (ρ : Rho) : ∀ (vs : List Nat) (j : Nat), (wipeR ρ vs)[j]? = if j ∈ vs then (if j < ρ.length then some S.no else none) else ρ[j]?
  | [], j => by simp [wipeR]
  | v :: vs, j => by
    unfold wipeR
    by_cases hj : v = j
    · subst hj
      rw [if_pos List.mem_cons_self]
      by_cases hl : v < ρ.length
      · rw [List.getElem?_set_self (by rw [wipeR_len]; exact hl), if_pos hl]
      · rw [List.getElem?_eq_none (by rw [List.length_set, wipeR_len]; omega), if_neg hl]
    · rw [List.getElem?_set_ne hj, wipeR_at ρ vs j]
      have : (j ∈ v :: vs) ↔ j ∈ vs := by
        rw [List.mem_cons]
        exact ⟨fun h => h.resolve_left (fun e => hj e.symm), .inr⟩
      simp only [this]
theorem RS.wipe {K : PySem.W.Frag} {ρ : Rho} {σ : St} {G H : Hp} (R : RS K ρ σ G H) (vs : List Nat) : RS K (wipeR ρ vs) (L2.wipe σ vs) G H := by
  refine ⟨by rw [wipe_length, wipeR_len, R.len], R.sub, fun i s e => ?_⟩
  rw [wipeR_at] at e
  rw [wipe_at]
  by_cases hi : i ∈ vs
  · rw [if_pos hi] at e
    split at e
    · cases e; trivial
    · cases e
  · rw [if_neg hi] at e
    rw [if_neg hi]
    exact R.sl i s e
/-- a target in a comprehension's block: its slots are the block's own -/
structure DGc (X : Cx) (own : List Nat) (tg : Expr) (g : TG') (t : TG) : Prop where
  pg : ∀ (s : Shared) (H : Hp) (scope : Scope) (C : Addr) (cl : List (Str × Addr)) (fp : List Addr), True
  run : ∀ (ρ ρ' : Rho) (σ : St) (G H : Hp) (d : D) (v : V) (Q : St → Hp → Prop), RS X.K ρ σ G H → Dat X.K G d v → g d ρ = some ρ' → (∀ σ', RS X.K ρ' σ' G H → L2.wipe σ' own = L2.wipe σ own → Q σ' H) → t v σ H Q
theorem run_gName {K : PySem.W.Frag} {own : List Nat} {i : Nat} (h : i ∈ own) : ∀ (ρ ρ' : Rho) (σ : St) (G H : Hp) (d : D) (v : V) (Q : St → Hp → Prop), RS K ρ σ G H → Dat K G d v → gN i d ρ = some ρ' → (∀ σ', RS K ρ' σ' G H → L2.wipe σ' own = L2.wipe σ own → Q σ' H) → gName i v σ H Q := by
  intro ρ ρ' σ G H d v Q R dv e k
  cases e
  exact k _ (R.set_im dv) (wipe_set h)
theorem run_gTup {K : PySem.W.Frag} {own is : List Nat} {t : TGs} (h : ∀ i ∈ is, i ∈ own) (q : ∀ (vs : List V) (σ : St) (H : Hp) (Q : St → Hp → Prop), vs.length = is.length → Q (setV is vs σ) H → t vs σ H Q) :
    ∀ (ρ ρ' : Rho) (σ : St) (G H : Hp) (d : D) (v : V) (Q : St → Hp → Prop), RS K ρ σ G H → Dat K G d v → gT is d ρ = some ρ' → (∀ σ', RS K ρ' σ' G H → L2.wipe σ' own = L2.wipe σ own → Q σ' H) → gTup K is.length t v σ H Q := by
  intro ρ ρ' σ G H d v Q R dv e k
  unfold gT at e
  cases d with
  | tup ds =>
    dsimp only at e
    by_cases hl : ds.length = is.length
    · rw [if_pos hl] at e
      cases e
      obtain ⟨a, vs, rfl, h1, h2⟩ := Dat.tup_iff.mp dv
      have hv : vs.length = is.length := by rw [← h2.1.len]; exact hl
      exact ⟨a, vs, rfl, .of (R.sub _ _ h1), hv, q vs σ H Q hv (k _ (R.setL h2.1) (wipe_setV h))⟩
    · rw [if_neg hl] at e; cases e
  | _ => cases e
theorem noExc_ok' {α : Type} {o : OP α} {a : α} (h : noExc o = .ok a) : o = .ok a := by
  cases o with
  | stuck => cases h
  | ok b => exact h
  | exc C ns ds => cases h
/-- the reading of a comprehension -/
theorem comp_run {X : Cx} {W : WX} {tt : TT} {te : TE} {wi : TI} {gt : TG} {own : List Nat} {g : TG'} {fi : PF'} {t : PT'} {fe : PE'}
    (qi : ∀ ρ σ G H (R : It → Hp → Prop), RS X.K ρ σ G H → QG X.K W σ G H (fun xs G' H' => xs.length ≤ line → ∀ J, Itd X.K G' J xs → R J H') (fi ρ) → wi σ H R)
    (qg : ∀ (ρ ρ' : Rho) (σ : St) (G H : Hp) (d : D) (v : V) (Q : St → Hp → Prop), RS X.K ρ σ G H → Dat X.K G d v → g d ρ = some ρ' → (∀ σ', RS X.K ρ' σ' G H → L2.wipe σ' own = L2.wipe σ own → Q σ' H) → gt v σ H Q)
    (qt : ∀ ρ σ G H Q, RS X.K ρ σ G H → QT X.K (fun _ _ _ _ => False) σ G H Q (t ρ) → tt σ H Q) (qe : ∀ ρ σ G H Q, RS X.K ρ σ G H → QP X.K (fun _ _ _ _ => False) σ G H Q (fe ρ) → te σ H Q) :
    ∀ ρ σ G H Q, RS X.K ρ σ G H → QF X.K W σ G H Q (fComp own g fi t fe ρ) → tLc wi gt tt te own σ H Q := by
  intro ρ σ G H Q R h
  unfold fComp at h
  refine qi ρ σ G H _ R ((QF.bind h).imp fun xs G1 H1 hfi x1 k hl J hJ => fun D nD => ?_)
  have R1 := R.ext x1
  -- the block's function at an item
  obtain ⟨F, hF⟩ : ∃ F : Pu.D → OP (Option Pu.D), F = fun x => (OP.of (g x (wipeR ρ own))).bind fun ρ' => (t ρ').bind fun b => if b then (fe ρ').bind fun y => .ok (some y) else .ok none := ⟨_, rfl⟩
  rw [← hF] at k
  cases hn : noExc (compL F xs) with
  | stuck => rw [hn] at k; exact k.elim
  | exc C ns ds =>
    exfalso
    cases hc : compL F xs with
    | stuck => rw [hc] at hn; cases hn
    | ok a => rw [hc] at hn; cases hn
    | exc C ns ds => rw [hc] at hn; cases hn
  | ok out =>
    rw [hn] at k
    have hco := noExc_ok' hn
    have x0 : Ext G1 H1 G1 (upd H1 D (.lst [])) := .own x1.sub nD
    refine ⟨fun i m H' => m = xs.length - i ∧ i ≤ xs.length ∧ ∃ G2 acc vs rest, Ext G1 H1 G2 H' ∧ G2 D = none ∧ H' D = some (.lst vs) ∧ Dats X.K G2 acc vs ∧ acc.length ≤ i ∧ compL F (xs.drop i) = .ok rest ∧ acc ++ rest = out,
      ⟨_, rfl, Nat.zero_le _, G1, [], [], out, x0, x1.sub.free nD, upd_same, .nil, Nat.le_refl _, hco, rfl⟩, ?_⟩
    rintro i m H2 ⟨rfl, hi, G2, acc, vs, rest, x2, g2, hD, da, hal, hr, ho⟩
    by_cases hlt : i < xs.length
    · have hd : xs.drop i = xs[i] :: xs.drop (i + 1) := List.drop_eq_getElem_cons hlt
      rw [hd] at hr
      unfold compL at hr
      refine .inr ⟨hJ.go i H2 (x2.g.trans x2.sub) hlt, fun H' => ∃ G' acc vs rest, Ext G1 H1 G' H' ∧ G' D = none ∧ H' D = some (.lst vs) ∧ Dats X.K G' acc vs ∧ acc.length ≤ i + 1 ∧ compL F (xs.drop (i + 1)) = .ok rest ∧ acc ++ rest = out,
        fun H' ⟨G', acc, vs, rest, a⟩ => ⟨_, by omega, rfl, hlt, G', acc, vs, rest, a⟩, fun v H3 y => ?_⟩
      obtain ⟨G3, x3, dv⟩ := hJ.yld i G2 H2 v H3 xs[i] x2.g x2.sub (List.getElem?_eq_getElem hlt) y
      have dn : ∀ {G4 H4 : Hp}, Ext G2 H2 G4 H4 → G4 D = none := fun {G4 H4} x => by
        cases q : G4 D with
        | none => rfl
        | some u =>
          rcases x.fr D (by rw [q]; simp) with z | z | ⟨_, z⟩
          · exact absurd g2 z
          · rw [hD] at z; cases z
          · rw [hD] at z; cases z
      cases hFx : F xs[i] with
      | stuck => rw [hFx] at hr; cases hr
      | exc C ns ds => rw [hFx] at hr; cases hr
      | ok oy =>
        rw [hFx] at hr
        cases hrest : compL F (xs.drop (i + 1)) with
        | stuck => rw [hrest] at hr; cases hr
        | exc C ns ds => rw [hrest] at hr; cases hr
        | ok rest' =>
          rw [hrest] at hr
          cases hr
          rw [hF] at hFx
          dsimp only at hFx
          cases hgx : g xs[i] (wipeR ρ own) with
          | none => rw [hgx] at hFx; cases hFx
          | some ρ' =>
            rw [hgx] at hFx
            have R3 : RS X.K (wipeR ρ own) (L2.wipe σ own) G3 H3 := (R1.ext (x2.trans x3)).wipe own
            refine qg (wipeR ρ own) ρ' (L2.wipe σ own) G3 H3 xs[i] v _ R3 dv hgx fun σ' R4 hw => ⟨by rw [hw, wipe_wipe], ?_⟩
            refine qt ρ' σ' G3 H3 _ R4 ?_
            have hFx' : ((t ρ').bind fun b => if b then (fe ρ').bind fun y => .ok (some y) else .ok none) = .ok oy := hFx
            cases htb : t ρ' with
            | stuck => rw [htb] at hFx'; cases hFx'
            | exc C ns ds => rw [htb] at hFx'; cases hFx'
            | ok b =>
              rw [htb] at hFx'
              intro G4 H4 x4
              cases b with
              | false =>
                rw [if_neg Bool.false_ne_true]
                have hFx'' : (OP.ok none : OP (Option Pu.D)) = .ok oy := hFx'
                cases hFx''
                have x24 : Ext G2 H2 G4 H4 := x3.trans x4
                exact ⟨G4, acc, vs, rest', x2.trans x24, dn x24, x24.h _ _ hD, da.mono x24.g, by omega, rfl, ho⟩
              | true =>
                rw [if_pos rfl]
                have hFx'' : ((fe ρ').bind fun y => .ok (some y)) = .ok oy := hFx'
                refine qe ρ' σ' G4 H4 _ (R4.ext x4) ?_
                cases hey : fe ρ' with
                | stuck => rw [hey] at hFx''; cases hFx''
                | exc C ns ds => rw [hey] at hFx''; cases hFx''
                | ok y =>
                  rw [hey] at hFx''
                  cases hFx''
                  intro G5 H5 x5 u du
                  have x25 : Ext G2 H2 G5 H5 := (x3.trans x4).trans x5
                  have hD5 := x25.h _ _ hD
                  have hlen : vs.length < sizeLine := by
                    have e1 := da.len
                    have e2 := line_is
                    omega
                  refine ⟨vs, hD5, hlen, G5, acc ++ [y], vs ++ [u], rest', ?_, dn x25, upd_same, (da.mono x25.g).append (.cons du .nil), by simp; omega, rfl, by simpa using ho⟩
                  have gsub : Same G5 (upd H5 D (.lst (vs ++ [u]))) := fun b z q => by rw [upd_ne (ne_of_none q (dn x25))]; exact x25.sub _ _ q
                  exact ⟨(x2.trans x25).g, fun b z q => by rw [upd_ne (ne_of_none q nD)]; exact (x2.trans x25).h _ _ q, gsub, (x2.trans x25).fr⟩
    · have e : i = xs.length := by omega
      subst e
      rw [List.drop_length] at hr
      have hr' : (OP.ok [] : OP (List Pu.D)) = .ok rest := hr
      cases hr'
      rw [List.append_nil] at ho
      subst ho
      exact .inl ⟨hJ.stop H2 (x2.g.trans x2.sub), k G2 H2 x2 D vs nD g2 hD da (by omega)⟩
end Pu
end
section
/-! Pu, the layer: comprehensions as rules, append, pop, calls, defs. -/
namespace Pu
open PySem PySem.Spec L2
open PyProof.Rows hiding St

/-! ### the readings in one form -/
abbrev W0 : WX := fun _ _ _ _ => False
def stP (K : PySem.W.Frag) (W : WX) (f : PE') : TE := fun σ H Q => ∃ ρ G, RS K ρ σ G H ∧ QP K W σ G H Q (f ρ)
def stT (K : PySem.W.Frag) (W : WX) (f : PT') : TT := fun σ H Q => ∃ ρ G, RS K ρ σ G H ∧ QT K W σ G H Q (f ρ)
section
variable {X : Cx} {W : WX} {e e1 e2 : Expr} {es : List Expr} {f f1 f2 : PE'} {t1 t2 : PT'} {g g1 g2 : SS} {pos : Pos} {st : Stmt} {r r1 r2 : List Stmt}
theorem PE.weak {t t' : TE} (h : PE X e t) (k : ∀ σ H Q, t' σ H Q → t σ H Q) : PE X e t' := ⟨fun pins s σ H Q I q => h.run pins s σ H Q I (k σ H Q q)⟩
theorem PT.weak {t t' : TT} (h : PT X e t) (k : ∀ σ H Q, t' σ H Q → t σ H Q) : PT X e t' := ⟨fun pins s σ H Q I q => h.run pins s σ H Q I (k σ H Q q)⟩
theorem DP.pe (h : DP X W e f) : PE X e (stP X.K W f) := by
  obtain ⟨t, p, q⟩ := h.ex
  exact PE.weak p fun σ H Q ⟨ρ, G, R, k⟩ => q ρ σ G H Q R k
theorem DT.pt (h : DT X W e t1) : PT X e (stT X.K W t1) := by
  obtain ⟨t, p, q⟩ := h.ex
  exact PT.weak p fun σ H Q ⟨ρ, G, R, k⟩ => q ρ σ G H Q R k
/-- the tests of a clause -/
def CTs (X : Cx) (scope : Scope) (ifs : List Expr) (t : PT') : Prop :=
  (ifs = [] ∧ t = Pu.tYes) ∨ ∃ c, ifs = [c] ∧ ∀ (s : Shared) (H : Hp) (C : Addr) (cl : List (Str × Addr)) (fp : List Addr), DT (X.blk s H scope (compEnvC scope cl C X.env) fp) W0 c t
theorem ct_no {scope : Scope} : CTs X scope [] Pu.tYes := .inl ⟨rfl, rfl⟩
theorem ct_if {scope : Scope} {c : Expr} {t : PT'} (h : ∀ (s : Shared) (H : Hp) (C : Addr) (cl : List (Str × Addr)) (fp : List Addr), DT (X.blk s H scope (compEnvC scope cl C X.env) fp) W0 c t) : CTs X scope [c] t := .inr ⟨c, rfl, h⟩
theorem CTs.run {scope : Scope} {ifs : List Expr} {t : PT'} (h : CTs X scope ifs t) : ∃ tt : TT, (∀ (s : Shared) (H : Hp) (C : Addr) (cl : List (Str × Addr)) (fp : List Addr), PTs (X.blk s H scope (compEnvC scope cl C X.env) fp) ifs tt) ∧
    ∀ ρ σ G H Q, RS X.K ρ σ G H → QT X.K W0 σ G H Q (t ρ) → tt σ H Q := by
  rcases h with ⟨rfl, rfl⟩ | ⟨c, rfl, h⟩
  · exact ⟨L2.tYes, fun s H C cl fp => pts_nil, fun ρ σ G H Q R k => k G H (.refl R.sub)⟩
  · exact ⟨stT X.K W0 t, fun s H C cl fp => pts_one (h s H C cl fp).pt, fun ρ σ G H Q R k => ⟨ρ, G, R, k⟩⟩
/-- the target of a clause -/
def CGs (X : Cx) (scope : Scope) (own : List Nat) (tg : Expr) (g : TG') : Prop :=
  ∃ gt : TG, (∀ (s : Shared) (H : Hp) (C : Addr) (cl : List (Str × Addr)) (fp : List Addr), PG (X.blk s H scope (compEnvC scope cl C X.env) fp) tg gt) ∧
    ∀ (ρ ρ' : Rho) (σ : St) (G H : Hp) (d : D) (v : V) (Q : St → Hp → Prop), RS X.K ρ σ G H → Dat X.K G d v → g d ρ = some ρ' → (∀ σ', RS X.K ρ' σ' G H → L2.wipe σ' own = L2.wipe σ own → Q σ' H) → gt v σ H Q
theorem cg_n {scope : Scope} {own : List Nat} {tg : Expr} (i : Nat) (hi : i ∈ own) (h : ∀ (s : Shared) (H : Hp) (C : Addr) (cl : List (Str × Addr)) (fp : List Addr), PG (X.blk s H scope (compEnvC scope cl C X.env) fp) tg (gName i)) : CGs X scope own tg (gN i) :=
  ⟨gName i, h, run_gName hi⟩
def tSets (is : List Nat) : TGs := fun vs σ H Q => vs.length = is.length ∧ Q (setV is vs σ) H
theorem Nms.pgs {X : Cx} {es : List Expr} {is : List Nat} (h : Nms X es is) : PGs X es (tSets is) := by
  obtain ⟨t, p, q⟩ := h.run
  exact ⟨fun pins s σ H vs us Q I r k => p.run pins s σ H vs us Q I r (q vs σ H Q k.1 k.2)⟩
theorem cg_t {scope : Scope} {own is : List Nat} {es : List Expr} {k : Nat} {tpos : Pos} (hc : X.calm = true) (hi : ∀ i ∈ is, i ∈ own) (h : ∀ (s : Shared) (H : Hp) (C : Addr) (cl : List (Str × Addr)) (fp : List Addr), Nms (X.blk s H scope (compEnvC scope cl C X.env) fp) es is)
    (hn : ∀ env, (assignEach es env).length = is.length := by intro _; rfl) (hst : ∀ env, (assignEach es env).findIdx? (·.1) = none := by intro _; rfl) : CGs X scope own (.Tuple es k tpos) (gT is) := by
  refine ⟨gTup X.K is.length (tSets is), fun s H C cl fp => pg_tup hc (h s H C cl fp).pgs (hn _) (hst _), run_gTup hi fun vs σ H Q hl q => ⟨hl, q⟩⟩
/-- [elt for tg in iter if ..] -/
theorem df_comp {elt tg iter : Expr} {ifs : List Expr} {scope : Scope} {own : List (Str × Nat)} {fi : PF'} {g : TG'} {t : PT'} {fe : PE'} (hc : X.calm = true) (hN : X.N.Nodup) (hi : DI X W tg iter fi) (ok : BlkOk X.N X.env.scope scope own)
    (hg : CGs X scope (own.map (·.2)) tg g) (ht : CTs X scope ifs t) (he : ∀ (s : Shared) (H : Hp) (C : Addr) (cl : List (Str × Addr)) (fp : List Addr), DP (X.blk s H scope (compEnvC scope cl C X.env) fp) W0 elt fe) :
    DF X W (.ListComp elt [⟨tg, iter, ifs, 0⟩] scope pos) (fComp (own.map (·.2)) g fi t fe) := by
  obtain ⟨wi, p1, q1⟩ := hi.ex
  obtain ⟨gt, p2, q2⟩ := hg
  obtain ⟨tt, p3, q3⟩ := ht.run
  exact ⟨_, pe_lc (te := stP X.K W0 fe) hc hN p1 ok p2 p3 (fun s H C cl fp => (he s H C cl fp).pe) hi.fold, fun ρ σ G H Q R h => comp_run q1 q2 q3 (fun ρ σ G H Q R k => ⟨ρ, G, R, k⟩) ρ σ G H Q R h⟩
/-- y = [..] on one line -/
theorem ds_setLc (i : Nat) {y : Str} {py spos : Pos} {elt tg iter : Expr} {ifs : List Expr} {scope : Scope} {own : List (Str × Nat)} {fi : PF'} {g : TG'} {t : PT'} {fe : PE'} (hc : X.calm = true) (hN : X.N.Nodup) (hi : DI X W tg iter fi) (ok : BlkOk X.N X.env.scope scope own)
    (hg : CGs X scope (own.map (·.2)) tg g) (ht : CTs X scope ifs t) (he : ∀ (s : Shared) (H : Hp) (C : Addr) (cl : List (Str × Addr)) (fp : List Addr), DP (X.blk s H scope (compEnvC scope cl C X.env) fp) W0 elt fe)
    (hy : X.N[i]? = some y := by rfl) (hyl : X.env.scope.names.lookup y = some .local := by rfl) (hsw : swapsWith (.ListComp elt [⟨tg, iter, ifs, 0⟩] scope pos) (some (.Name y py)) spos.line X.env = pure true := by exact sw_true rfl rfl rfl (by decide +kernel)) :
    DS X W (.Assign [.Name y py] (.ListComp elt [⟨tg, iter, ifs, 0⟩] scope pos) spos) (sAsgF i (fComp (own.map (·.2)) g fi t fe)) := by
  obtain ⟨wi, p1, q1⟩ := hi.ex
  obtain ⟨gt, p2, q2⟩ := hg
  obtain ⟨tt, p3, q3⟩ := ht.run
  refine ⟨_, ps_setLc (te := stP X.K W0 fe) hc hN hy hyl hsw p1 ok p2 p3 (fun s H C cl fp => (he s H C cl fp).pe) hi.fold, fun pn G0 H0 ρ σ G H D R h => ?_⟩
  refine comp_run q1 q2 q3 (fun ρ σ G H Q R k => ⟨ρ, G, R, k⟩) ρ σ G H _ R.rs ((QS.op R h).imp fun ds G' H' _ x k a vs n g l dv le => ?_)
  exact k _ G' H' (R.set_own x n ⟨a, vs, rfl, l, g, dv, le⟩ trivial (by simp)) (Same.refl _)
theorem ds_setLcP (i : Nat) {y : Str} {py spos : Pos} {elt tg iter : Expr} {ifs : List Expr} {scope : Scope} {own : List (Str × Nat)} {fi : PF'} {g : TG'} {t : PT'} {fe : PE'} (hc : X.calm = true) (hN : X.N.Nodup) (hi : DI X W tg iter fi) (ok : BlkOk X.N X.env.scope scope own)
    (hg : CGs X scope (own.map (·.2)) tg g) (ht : CTs X scope ifs t) (he : ∀ (s : Shared) (H : Hp) (C : Addr) (cl : List (Str × Addr)) (fp : List Addr), DP (X.blk s H scope (compEnvC scope cl C X.env) fp) W0 elt fe)
    (hy : X.N[i]? = some y := by rfl) (hyl : X.env.scope.names.lookup y = some .local := by rfl) (hsw : swapsWith (.ListComp elt [⟨tg, iter, ifs, 0⟩] scope pos) (some (.Name y py)) spos.line X.env = pure true := by exact sw_true rfl rfl rfl (by decide +kernel)) :
    DS X W (.Assign [.Name y py] (.ListComp elt [⟨tg, iter, ifs, 0⟩] scope pos) spos) (sAsg (gN i) (pOfF (fComp (own.map (·.2)) g fi t fe))) := by
  obtain ⟨wi, p1, q1⟩ := hi.ex
  obtain ⟨gt, p2, q2⟩ := hg
  obtain ⟨tt, p3, q3⟩ := ht.run
  refine ⟨_, ps_setLc (te := stP X.K W0 fe) hc hN hy hyl hsw p1 ok p2 p3 (fun s H C cl fp => (he s H C cl fp).pe) hi.fold, fun pn G0 H0 ρ σ G H D R h => ?_⟩
  refine comp_run q1 q2 q3 (fun ρ σ G H Q R k => ⟨ρ, G, R, k⟩) ρ σ G H _ R.rs ?_
  have h' : QS X.K W pn G0 H0 G D (opS ((fComp (own.map (·.2)) g fi t fe ρ).bind fun xs => .ok (.lst xs)) ρ fun d => .nx (ρ.set i (.im d))) := h
  cases ho : fComp (own.map (·.2)) g fi t fe ρ with
  | stuck => rw [ho] at h'; exact h'
  | exc C ns ds => rw [ho] at h'; exact Xc.of R h'
  | ok ds =>
    rw [ho] at h'
    intro G' H' x a vs n g l dv le
    have x2 := x.fix' n g l
    exact h' _ (upd G' a (.lst vs)) H' ((R.to x2).set_im (Dat.lst_iff.mpr ⟨a, vs, rfl, upd_same, dv.mono (same_upd g), le⟩)) x2.g

/-! ### expressions that change a slot -/
end
def QE (K : PySem.W.Frag) (W : WX) (pn : Addr) (G0 H0 : Hp) (σ : St) (G H : Hp) (Q : VK) : OP (D × Rho) → Prop
  | .stuck => False
  | .ok p => ∀ v G' H', Rep K pn G0 H0 p.2 σ G' H' → Same G G' → Dat K G' p.1 v → Q v H'
  | .exc C ns ds => Xc K W σ G H C ns ds
structure DE (X : Cx) (W : WX) (e : Expr) (f : QE') : Prop where
  ex : ∃ t : TE, PE X e t ∧ ∀ pn G0 H0 ρ σ G H Q, Rep X.K pn G0 H0 ρ σ G H → QE X.K W pn G0 H0 σ G H Q (f ρ) → t σ H Q
section
variable {X : Cx} {W : WX} {ee e1 e2 : Expr} {es : List Expr} {f f1 f2 : PE'} {t1 t2 : PT'} {g g1 g2 : SS} {pos : Pos} {st : Stmt} {r r1 r2 : List Stmt}
theorem DP.e (h : DP X W ee f) : DE X W ee (eP f) := by
  obtain ⟨t, p, q⟩ := h.ex
  refine ⟨t, p, fun pn G0 H0 ρ σ G H Q R k => q ρ σ G H Q R.rs ?_⟩
  unfold eP at k
  cases ho : f ρ with
  | stuck => rw [ho] at k; exact k
  | exc C ns ds => rw [ho] at k; exact k
  | ok d => rw [ho] at k; exact fun G' H' x v dv => k v G' H' (R.to x) x.g dv
theorem ixP_seq {n : Nat} {i : Int} {k : Nat} (h : ixP n i = some k) : seqIndex? i n = some k := (ixN_seq (show ixN n i = some k from h)).1
/-- a held list changed -/
theorem Rep.lst {K : PySem.W.Frag} {pn : Addr} {G0 H0 G H : Hp} {ρ : Rho} {σ : St} (R : Rep K pn G0 H0 ρ σ G H) {j : Nat} {xs ys : List D} {p : Addr} {vs ws : List V} (hj : ρ[j]? = some (.ml xs)) (e : σ[j]? = some (some (.ref p))) (hp : H p = some (.lst vs)) (gp : G p = none)
    (d : Dats K G ys ws) (l : ys.length ≤ line) : Rep K pn G0 H0 (ρ.set j (.ml ys)) σ G (upd H p (.lst ws)) :=
  R.write hj trivial trivial e (fun fs => by rw [hp]; simp) (fun C fs z => by cases z) ⟨p, ws, rfl, upd_same, gp, d, l⟩
theorem Dats.last {K : PySem.W.Frag} {G : Hp} {xs : List D} {vs : List V} {d : D} (h : Dats K G xs vs) (e : xs.getLast? = some d) : ∃ v, vs[vs.length - 1]? = some v ∧ Dat K G d v := by
  rw [List.getLast?_eq_getElem?] at e
  obtain ⟨v, e1, e2⟩ := h.get e
  exact ⟨v, by rw [← h.len]; exact e1, e2⟩
theorem de_popAt (j : Nat) {x : Str} {apos npos : Pos} (ha : DP X W ee f) (hN : X.N[j]? = some x := by rfl) (hv : Vis X.env.scope x := by first | exact Or.inl rfl | exact Or.inr (Or.inl rfl) | exact Or.inr (Or.inr rfl)) (hd : (x == ("__debug__" : Str)) = false := by decide)
    (hcd : (x == ("__classdict__" : Str)) = false := by decide) (hbase : attributeBase (.Name x npos) "pop" X.env (eval (.Name x npos) X.env) = eval (.Name x npos) X.env := by rfl)
    (hfew : ((backTo pos (starEach [ee] X.env)).all (fun x => !x.1) && (backToKw pos (keywordEach [] X.env)).all (fun x => x.1.isSome)
      && decide ([ee].length + ([] : List Keyword).length + (if ([] : List Keyword).isEmpty then 0 else 1) < 30)) = true := by rfl)
    (hline : (apos.endLine == pos.line) = true := by rfl) (hs : starEach [ee] X.env = (false, eval ee X.env) :: starEach [] X.env := by rfl) (hplain : (backTo pos (starEach [] X.env)).any (·.1) = false := by rfl) :
    DE X W (.Call (.Attribute (.Name x npos) "pop" apos) [ee] [] pos) (ePopAt j f) := by
  obtain ⟨t, p, q⟩ := ha.ex
  refine ⟨_, pe_bm PySem.F.plainAttrs_list PySem.F.slot_list_pop PySem.F.type_list_pop mt_popAt (pe_var hN hv hd hcd) (pa_cons p pa_nil hs) hbase hfew hline hs hplain, fun pn G0 H0 ρ σ G H Q R k => ?_⟩
  unfold ePopAt at k
  cases hj : ρ[j]? with
  | none => rw [hj] at k; exact k.elim
  | some s =>
    cases s with
    | ml xs =>
      obtain ⟨a, vs, e, h1, h2, h3, h4⟩ := R.rs.sl j _ hj
      rw [hj] at k
      dsimp only at k
      refine ⟨_, e, .inl ⟨rfl, vs, .of h1⟩, q ρ σ G H _ R.rs ?_⟩
      cases ho : f ρ with
      | stuck => rw [ho] at k; exact k
      | exc C ns ds => rw [ho] at k; exact k
      | ok d =>
        rw [ho] at k
        intro G1 H1 x1 w dw
        cases d with
        | int i =>
          have k' : QE X.K W pn G0 H0 σ G H Q (if -(2 ^ 63) ≤ i ∧ i < 2 ^ 63 then (match ixP xs.length i with
            | some k => (match xs[k]? with
              | some x => .ok (x, ρ.set j (.ml (xs.eraseIdx k)))
              | none => .stuck)
            | none => .stuck) else .stuck) := k
          by_cases hb : -(2 ^ 63) ≤ i ∧ i < 2 ^ 63
          · rw [if_pos hb] at k'
            cases hk : ixP xs.length i with
            | none => rw [hk] at k'; exact k'.elim
            | some n =>
              rw [hk] at k'
              dsimp only at k'
              cases hx : xs[n]? with
              | none => rw [hx] at k'; exact k'.elim
              | some y =>
                rw [hx] at k'
                obtain ⟨u, eu, du⟩ := h3.get hx
                have R1 := R.to x1
                have g1 : G1 a = none := by
                  obtain ⟨a', u', e', _, g'⟩ := R1.rs.held (i := j) (by rw [hj]; trivial)
                  rw [e] at e'; cases e'; exact g'
                refine ⟨a, vs, i, n, u, rfl, by rw [Dat.int_iff.mp dw], x1.h _ _ h1, hb.1, hb.2, ?_, eu, ?_⟩
                · rw [← h3.len]; exact ixP_seq hk
                · exact k' u G1 _ (R1.lst hj e (x1.h _ _ h1) g1 ((h3.mono x1.g).eraseIdx n) (Nat.le_trans (List.length_eraseIdx_le _ _) h4)) x1.g (du.mono x1.g)
          · rw [if_neg hb] at k'; exact k'.elim
        | _ => exact k.elim
    | _ => rw [hj] at k; exact k.elim
theorem de_pop (j : Nat) {x : Str} {apos npos : Pos} (hN : X.N[j]? = some x := by rfl) (hv : Vis X.env.scope x := by first | exact Or.inl rfl | exact Or.inr (Or.inl rfl) | exact Or.inr (Or.inr rfl)) (hd : (x == ("__debug__" : Str)) = false := by decide)
    (hcd : (x == ("__classdict__" : Str)) = false := by decide) (hbase : attributeBase (.Name x npos) "pop" X.env (eval (.Name x npos) X.env) = eval (.Name x npos) X.env := by rfl)
    (hline : (apos.endLine == pos.line) = true := by rfl) :
    DE X W (.Call (.Attribute (.Name x npos) "pop" apos) [] [] pos) (ePop j) := by
  refine ⟨_, pe_bm0 PySem.F.plainAttrs_list PySem.F.slot_list_pop PySem.F.type_list_pop mt_pop (pe_var hN hv hd hcd) hbase hline, fun pn G0 H0 ρ σ G H Q R k => ?_⟩
  unfold ePop at k
  cases hj : ρ[j]? with
  | none => rw [hj] at k; exact k.elim
  | some s =>
    cases s with
    | ml xs =>
      obtain ⟨a, vs, e, h1, h2, h3, h4⟩ := R.rs.sl j _ hj
      rw [hj] at k
      dsimp only at k
      cases hx : xs.getLast? with
      | none => rw [hx] at k; exact k.elim
      | some y =>
        rw [hx] at k
        obtain ⟨u, eu, du⟩ := h3.last hx
        have dd : Dats X.K G xs.dropLast vs.dropLast := by
          rw [List.dropLast_eq_take, List.dropLast_eq_take, h3.len]
          exact h3.take _
        refine ⟨_, e, .inl ⟨rfl, vs, .of h1⟩, a, vs, u, rfl, rfl, h1, eu, ?_⟩
        exact k u G _ (R.lst hj e h1 h2 dd (by rw [List.length_dropLast]; omega)) (Same.refl _) du
    | _ => rw [hj] at k; exact k.elim
theorem ds_setE (i : Nat) {x : Str} {pos' : Pos} {f : QE'} (h : DE X W ee f) (hN : X.N.Nodup) (hi : X.N[i]? = some x := by rfl) (hx : Loc X.env.scope x := by first | exact Or.inl rfl | exact Or.inr rfl) (hs : swapsWith ee (some (.Name x pos')) pos.line X.env = pure false := by rfl) (hf : X.fn x = true ∨ X.env.scope.names.lookup x = some .local := by first | exact .inl rfl | exact .inr rfl) :
    DS X W (.Assign [.Name x pos'] ee pos) (sAsgE (gN i) f) := by
  obtain ⟨t, p, q⟩ := h.ex
  refine ⟨_, ps_set hN hi hx p hs hf, fun pn G0 H0 ρ σ G H D R h => q pn G0 H0 ρ σ G H _ R ?_⟩
  unfold sAsgE at h
  cases ho : f ρ with
  | stuck => rw [ho] at h; exact h
  | exc C ns ds => rw [ho] at h; exact Xc.of R h
  | ok p => rw [ho] at h; exact fun v G' H' R' s dv => h _ G' H' (R'.set_im dv) s
theorem ds_exprE {f : QE'} (h : DE X W ee f) (hs : swapsWith ee none pos.line X.env = pure false := by rfl) : DS X W (.Expr ee pos) (sDropE f) := by
  obtain ⟨t, p, q⟩ := h.ex
  refine ⟨_, ps_expr p hs, fun pn G0 H0 ρ σ G H D R h => q pn G0 H0 ρ σ G H _ R ?_⟩
  unfold sDropE at h
  cases ho : f ρ with
  | stuck => rw [ho] at h; exact h
  | exc C ns ds => rw [ho] at h; exact Xc.of R h
  | ok p => rw [ho] at h; exact fun v G' H' R' s dv => h _ G' H' R' s
/-- x.append(e) -/
theorem ds_appE (i : Nat) {x : Str} {apos npos cpos : Pos} {f : QE'} (h : DE X W ee f) (hN : X.N[i]? = some x := by rfl) (hv : Vis X.env.scope x := by first | exact Or.inl rfl | exact Or.inr (Or.inl rfl) | exact Or.inr (Or.inr rfl)) (hd : (x == ("__debug__" : Str)) = false := by decide)
    (hcd : (x == ("__classdict__" : Str)) = false := by decide) (hbase : attributeBase (.Name x npos) "append" X.env (eval (.Name x npos) X.env) = eval (.Name x npos) X.env := by rfl)
    (hfew : ((backTo cpos (starEach [ee] X.env)).all (fun x => !x.1) && (backToKw cpos (keywordEach [] X.env)).all (fun x => x.1.isSome)
      && decide ([ee].length + ([] : List Keyword).length + (if ([] : List Keyword).isEmpty then 0 else 1) < 30)) = true := by rfl)
    (hline : (apos.endLine == cpos.line) = true := by rfl) (hst : starEach [ee] X.env = (false, eval ee X.env) :: starEach [] X.env := by rfl) (hplain : (backTo cpos (starEach [] X.env)).any (·.1) = false := by rfl)
    (hs : swapsWith (.Call (.Attribute (.Name x npos) "append" apos) [ee] [] cpos) none pos.line X.env = pure false := by rfl) :
    DS X W (.Expr (.Call (.Attribute (.Name x npos) "append" apos) [ee] [] cpos) pos) (sAppE i f) := by
  obtain ⟨t, p, q⟩ := h.ex
  refine ⟨_, ps_expr (pe_bm PySem.F.plainAttrs_list PySem.F.slot_list_append PySem.F.type_list_append mt_append (pe_var hN hv hd hcd) (pa_cons p pa_nil hst) hbase hfew hline hst hplain) hs, fun pn G0 H0 ρ σ G H D R k => ?_⟩
  unfold sAppE at k
  cases hj : ρ[i]? with
  | none => rw [hj] at k; exact k.elim
  | some s =>
    cases s with
    | ml xs =>
      obtain ⟨a, vs, e, h1, h2, h3, h4⟩ := R.rs.sl i _ hj
      rw [hj] at k
      dsimp only at k
      refine ⟨_, e, .inl ⟨rfl, vs, .of h1⟩, q pn G0 H0 ρ σ G H _ R ?_⟩
      cases ho : f ρ with
      | stuck => rw [ho] at k; exact k
      | exc C ns ds => rw [ho] at k; exact Xc.of R k
      | ok p =>
        rw [ho] at k
        intro w G1 H1 R1 s1 dw
        have k' : QS X.K W pn G0 H0 G D (match p.2[i]? with
          | some (.ml xs) => if xs.length < line then .nx (p.2.set i (.ml (xs ++ [p.1]))) else .stuck
          | _ => .stuck) := k
        cases hi : p.2[i]? with
        | none => rw [hi] at k'; exact k'.elim
        | some s2 =>
          cases s2 with
          | ml ys =>
            rw [hi] at k'
            dsimp only at k'
            obtain ⟨b, us, eb, b1, b2, b3, b4⟩ := R1.rs.sl i _ hi
            rw [e] at eb; cases eb
            by_cases hl : ys.length < line
            · rw [if_pos hl] at k'
              refine ⟨a, us, w, rfl, rfl, b1, ?_, ?_⟩
              · have e1 := b3.len
                have e2 := line_is
                omega
              · exact k' σ G1 _ (R1.lst hi e b1 b2 (b3.append (.cons dw .nil)) (by simp; omega)) s1
            · rw [if_neg hl] at k'; exact k'.elim
          | _ => rw [hi] at k'; exact k'.elim
    | _ => rw [hj] at k; exact k.elim
theorem sApp_E {i : Nat} {f : PE'} {ρ : Rho} : sApp i f ρ = sAppE i (eP f) ρ := by
  unfold sApp sAppE eP
  cases hj : ρ[i]? with
  | none => rfl
  | some s =>
    cases s with
    | ml xs =>
      dsimp only
      cases ho : f ρ with
      | stuck => rfl
      | exc C ns ds => rfl
      | ok d => show _ = opS (.ok (d, ρ)) ρ _; simp only [opS_ok, hj]
    | _ => rfl
theorem ds_app (i : Nat) {x : Str} {apos npos cpos : Pos} {f : PE'} (h : DP X W ee f) (hN : X.N[i]? = some x := by rfl) (hv : Vis X.env.scope x := by first | exact Or.inl rfl | exact Or.inr (Or.inl rfl) | exact Or.inr (Or.inr rfl)) (hd : (x == ("__debug__" : Str)) = false := by decide)
    (hcd : (x == ("__classdict__" : Str)) = false := by decide) (hbase : attributeBase (.Name x npos) "append" X.env (eval (.Name x npos) X.env) = eval (.Name x npos) X.env := by rfl)
    (hfew : ((backTo cpos (starEach [ee] X.env)).all (fun x => !x.1) && (backToKw cpos (keywordEach [] X.env)).all (fun x => x.1.isSome)
      && decide ([ee].length + ([] : List Keyword).length + (if ([] : List Keyword).isEmpty then 0 else 1) < 30)) = true := by rfl)
    (hline : (apos.endLine == cpos.line) = true := by rfl) (hst : starEach [ee] X.env = (false, eval ee X.env) :: starEach [] X.env := by rfl) (hplain : (backTo cpos (starEach [] X.env)).any (·.1) = false := by rfl)
    (hs : swapsWith (.Call (.Attribute (.Name x npos) "append" apos) [ee] [] cpos) none pos.line X.env = pure false := by rfl) :
    DS X W (.Expr (.Call (.Attribute (.Name x npos) "append" apos) [ee] [] cpos) pos) (sApp i f) := by
  obtain ⟨t, p, q⟩ := (ds_appE (pos := pos) i h.e hN hv hd hcd hbase hfew hline hst hplain hs).ex
  exact ⟨t, p, fun pn G0 H0 ρ σ G H D R k => q pn G0 H0 ρ σ G H D R (sApp_E ▸ k)⟩
end
end Pu
end
section
/-! Pu, the layer: defs, calls, objects. -/
namespace Pu
open PySem PySem.Spec L2
open PyProof.Rows hiding St

/-! ### a def's promise, by its function -/
def QC (K : PySem.W.Frag) (G H : Hp) (Q : VK) (E : XK) : OF → Prop
  | .stuck => False
  | .ret (.val d) => ∀ v G' H', Ext G H G' H' → Dat K G' d v → Q v H'
  | .ret (.fresh ds) => ∀ p vs G' H', Ext G H G' H' → H p = none → G' p = none → H' p = some (.lst vs) → Dats K G' ds vs → ds.length ≤ line → Q (.ref p) H'
  | .exc C ns ds => ∀ dx vs G' H', Ext G H G' H' → H' dx = some (.xd (ns.zip vs)) → ns.length = ds.length → Dats K G' ds vs → E (.ref C) (some dx) H'
def spD (K : PySem.W.Frag) (n : Nat) (F : List D → OF) : Sp := fun vs H Q E => ∃ G ds, Same G H ∧ Dats K G ds vs ∧ ds.length = n ∧ QC K G H Q E (F ds)
theorem start_at {N : List Str} {K : PySem.W.Frag} {G : Hp} {ds : List D} {vs : List V} (h : Dats K G ds vs) (hl : ds.length ≤ N.length) : (L2.start N vs).length = (startR N.length ds).length ∧
    ∀ (i : Nat) (s : S), (startR N.length ds)[i]? = some s → SlR K G G (L2.start N vs)[i]? s ∧ ¬ Own (some s) := by
  have e := h.len
  refine ⟨by unfold L2.start startR; simp only [List.length_append, List.length_map, List.length_replicate]; omega, fun i s q => ?_⟩
  unfold startR at q
  unfold L2.start
  by_cases hi : i < ds.length
  · rw [List.getElem?_append_left (by simpa using hi), List.getElem?_map, List.getElem?_eq_getElem hi] at q
    cases q
    obtain ⟨v, e1, e2⟩ := h.get (List.getElem?_eq_getElem hi)
    refine ⟨⟨v, ?_, e2⟩, fun z => z⟩
    rw [List.getElem?_append_left (by simp; omega), List.getElem?_map, e1]; rfl
  · rw [List.getElem?_append_right (by simpa using hi), List.getElem?_replicate] at q
    split at q
    · cases q; exact ⟨trivial, fun z => z⟩
    · cases q
theorem rep_start {K : PySem.W.Frag} {pn : Addr} {G H : Hp} {N : List Str} {ds : List D} {vs : List V} (s : Same G H) (h : Dats K G ds vs) (hl : ds.length ≤ N.length) : Rep K pn G H (startR N.length ds) (L2.start N vs) G H := by
  obtain ⟨h1, h2⟩ := start_at h hl
  have no : ∀ i : Nat, ¬ Own (startR N.length ds)[i]? := fun i w => by
    cases q : (startR N.length ds)[i]? with
    | none => rw [q] at w; exact w
    | some t => rw [q] at w; exact (h2 i t q).2 w
  have slx : ∀ (o : Option (Option V)) (t : S), ¬ Own (some t) → SlR K G G o t → SlR K G H o t := fun o t w q => by
    cases t with
    | no => trivial
    | im d => exact q
    | ml xs => exact absurd trivial w
    | md xs => exact absurd trivial w
    | mo C xs => exact absurd trivial w
    | ex C ns ds => obtain ⟨a, dx, us, e, a1, a2⟩ := q; exact ⟨a, dx, us, e, s _ _ a1, a2⟩
  exact ⟨⟨h1, s, fun i t q => slx _ t (h2 i t q).2 (h2 i t q).1⟩, .refl s, fun i p w => absurd w (no i), fun i j p n w => absurd w (no i), fun i C fs q => absurd (show Own (startR N.length ds)[i]? by rw [q]; trivial) (no i)⟩
section
variable {P : Program} {w : World} {K : PySem.W.Frag} {mg : Str → Option Value} {base : Heap}
/-- THE RULE for a def -/
theorem fn_ok {x qual : Str} {st : Stmt} {f : Addr} {fd : FuncData} {N ps : List Str} {k : Nat} {g : SS} (F : Fun K x qual st f fd) (S : FnScope N ps (defScope st)) (hl : ps.length ≤ N.length)
    (hb : ∀ (cdv : Value) (A : Around) (outer : List Env) (s : Shared) (H : Hp) (E : XK), Room k (A.deeper (envOfC qual (defScope st) s.heap.objs.size f cdv)) →
      DSs (cxOf (L2.CX P w) P w K mg base N qual (defScope st) f cdv A outer s H E) (fun cls d _ H => E cls d H) (defBody st) g) :
    FnOk P w K mg base (L2.CX P w) (k + 1) f fd ps (spD K ps.length (runF N.length ps.length g)) := by
  refine F.okX S (fun vs H Q E h => ?_) (fun cdv A outer s H vs Q E hr h => ?_)
  · obtain ⟨G, ds, _, h1, h2, _⟩ := h
    rw [← h1.len, h2]
  · obtain ⟨G, ds, sGH, h1, h2, q⟩ := h
    obtain ⟨t, p, k⟩ := (hb cdv A outer s H E hr).ex
    refine ⟨t, p, k 0 G H (startR N.length ds) (L2.start N vs) G H _ (rep_start sGH h1 (by omega)) ?_⟩
    unfold runF at q
    rw [if_pos h2] at q
    show QS K _ 0 G H G _ (g (startR N.length ds))
    cases o : g (startR N.length ds) with
    | stuck => rw [o] at q; exact q
    | nx ρ => rw [o] at q; exact fun σ G' H' R s1 => q _ G' H' R.ext (Dat.non_iff.mpr rfl)
    | bk ρ => rw [o] at q; exact q.elim
    | ct ρ => rw [o] at q; exact q.elim
    | ret r => rw [o] at q; cases r <;> exact q
    | exc C ns ds ρ => rw [o] at q; exact fun σ dx vs G' H' R s1 a b c => q dx vs G' H' R.ext a b c
end
section
variable {X : Cx} {W : WX} {e e1 e2 : Expr} {es : List Expr} {f f1 f2 : PE'} {t1 t2 : PT'} {g g1 g2 : SS} {pos : Pos} {st : Stmt} {r r1 r2 : List Stmt}
theorem Dats.app_nil {vs : List V} : vs ++ [] = vs := List.append_nil vs
theorem dp_call {as : List PE'} {F : List D → OF} {n k : Nat} {fa : Addr} {fd : FuncData} {ps : List Str} {x : Str} {p : Pos} (FO : FnOk X.prog X.w X.K X.mg X.base (L2.CX X.prog X.w) k fa fd ps (spD X.K n F)) (hr : Room k X.A) (hm : X.mg x = some (.ref fa)) (hk : PySem.W.keepIn X.K (.ref fa) = true) (hb : Binds X.K fd ps [])
    (tk : Takes X W) (ha : DA X W (e :: es) (pArgs as)) (hn : ∀ ρ ds, pArgs as ρ = .ok ds → ds.length = n) (hg : Gl X x := by rfl) (hdb : (x == ("__debug__" : Str)) = false := by decide) (he : starEach (e :: es) X.env = (false, eval e X.env) :: starEach es X.env := by rfl) (hpl : (backTo pos (starEach es X.env)).any (·.1) = false := by rfl) :
    DP X W (.Call (.Name x p) (e :: es) [] pos) (pCall F as) := by
  obtain ⟨t, p, q⟩ := ha.ex
  refine ⟨_, pe_callSD FO hr hg hm hk hb .nil (fun σ => passAt tk σ) p hdb he hpl, fun ρ σ G H Q R h => q ρ σ G H _ R (QG.imp (QG.bind h) fun ds G1 H1 ho x1 k vs dv => ?_)⟩
  refine ⟨G1, ds, x1.sub, by rw [List.append_nil]; exact dv, hn ρ ds ho, ?_⟩
  cases hf : F ds with
  | stuck => rw [hf] at k; exact k
  | exc C ns es => rw [hf] at k; exact k
  | ret rv =>
    rw [hf] at k
    cases rv with
    | val d => exact fun v G' H' x2 dv => k G' H' x2 v dv
    | fresh xs =>
      intro a us G' H' x2 n2 g2 l2 d2 le
      exact k (upd G' a (.lst us)) H' (x2.fix' n2 g2 l2) (.ref a) (Dat.lst_iff.mpr ⟨a, us, rfl, upd_same, d2.mono (same_upd g2), le⟩)
theorem df_call {as : List PE'} {F : List D → OF} {n k : Nat} {fa : Addr} {fd : FuncData} {ps : List Str} {x : Str} {p : Pos} (FO : FnOk X.prog X.w X.K X.mg X.base (L2.CX X.prog X.w) k fa fd ps (spD X.K n F)) (hr : Room k X.A) (hm : X.mg x = some (.ref fa)) (hk : PySem.W.keepIn X.K (.ref fa) = true) (hb : Binds X.K fd ps [])
    (tk : Takes X W) (ha : DA X W (e :: es) (pArgs as)) (hn : ∀ ρ ds, pArgs as ρ = .ok ds → ds.length = n) (hg : Gl X x := by rfl) (hdb : (x == ("__debug__" : Str)) = false := by decide) (he : starEach (e :: es) X.env = (false, eval e X.env) :: starEach es X.env := by rfl) (hpl : (backTo pos (starEach es X.env)).any (·.1) = false := by rfl) :
    DF X W (.Call (.Name x p) (e :: es) [] pos) (fCall F as) := by
  obtain ⟨t, p, q⟩ := ha.ex
  refine ⟨_, pe_callSD FO hr hg hm hk hb .nil (fun σ => passAt tk σ) p hdb he hpl, fun ρ σ G H Q R h => q ρ σ G H _ R ((QF.bind h).imp fun ds G1 H1 ho x1 k vs dv => ?_)⟩
  refine ⟨G1, ds, x1.sub, by rw [List.append_nil]; exact dv, hn ρ ds ho, ?_⟩
  cases hf : F ds with
  | stuck => rw [hf] at k; exact k
  | exc C ns es => rw [hf] at k; exact k
  | ret rv =>
    rw [hf] at k
    cases rv with
    | val d => exact k.elim
    | fresh xs => exact fun a us G' H' x2 n2 g2 l2 d2 le => k G' H' x2 a us n2 g2 l2 d2 le
theorem Dats.flat {K : PySem.W.Frag} {G G' : Hp} : ∀ {ds : List D} {vs : List V}, ds.all D.flat = true → Dats K G ds vs → Dats K G' ds vs
  | [], vs, _, h => by rw [h.nil_inv]; exact .nil
  | d :: ds, vs, f, h => by
    obtain ⟨v, r, rfl, h1, h2⟩ := h.cons_inv
    rw [List.all_cons, Bool.and_eq_true] at f
    exact .cons (h1.flat_mono f.1) (Dats.flat f.2 h2)
theorem dp_callB {as : List PE'} {F : List D → OF} {n k : Nat} {fa : Addr} {fd : FuncData} {ps : List Str} {x : Str} {p : Pos} (FO : FnOk X.prog X.w X.K X.mg X.base (L2.CX X.prog X.w) k fa fd ps (spD X.K n F)) (hr : Room k X.A) (hm : X.mg x = some (.ref fa)) (hk : PySem.W.keepIn X.K (.ref fa) = true) (hb : Binds X.K fd ps [])
    (tk : Takes X W) (ha : DBA X W (e :: es) (pArgs as)) (hn : ∀ ρ ds, pArgs as ρ = .ok ds → ds.length = n) (hg : Gl X x := by rfl) (hdb : (x == ("__debug__" : Str)) = false := by decide) (he : starEach (e :: es) X.env = (false, eval e X.env) :: starEach es X.env := by rfl) (hpl : (backTo pos (starEach es X.env)).any (·.1) = false := by rfl) :
    DP X W (.Call (.Name x p) (e :: es) [] pos) (pCallB F as) := by
  obtain ⟨t, p, q⟩ := ha.ex
  refine ⟨_, pe_callSD FO hr hg hm hk hb .nil (fun σ => passAt tk σ) p hdb he hpl, fun ρ σ G H Q R h => q ρ σ G H _ R (QG.imp (QG.bind h) fun ds G1 H1 ho x1 k vs dv => ?_)⟩
  refine ⟨H1, ds, Same.refl _, by rw [List.append_nil]; exact dv.all x1.sub, hn ρ ds ho, ?_⟩
  have down : ∀ {G' H' : Hp}, Ext H1 H1 G' H' → Ext G1 H1 G1 H' := fun {G' H'} x => ⟨Same.refl _, x.h, x1.sub.trans x.h, fun a h => .inl h⟩
  cases hf : F ds with
  | stuck => rw [hf] at k; exact k
  | exc C ns es =>
    rw [hf] at k
    have k' : QP X.K W σ G1 H1 Q (if es.all D.flat then .exc C ns es else .stuck) := k
    by_cases c : es.all D.flat = true
    · rw [if_pos c] at k'
      exact fun dx us G' H' x2 a b d => k' dx us G1 H' (down x2) a b (d.flat c)
    · rw [if_neg c] at k'; exact k'.elim
  | ret rv =>
    rw [hf] at k
    have k' : QP X.K W σ G1 H1 Q (if rv.d.flat then .ok rv.d else .stuck) := k
    by_cases c : rv.d.flat = true
    · rw [if_pos c] at k'
      cases rv with
      | val d => exact fun v G' H' x2 dv => k' G1 H' (down x2) v (dv.flat_mono c)
      | fresh xs => cases c
    · rw [if_neg c] at k'; exact k'.elim
/-! ### objects -/
/-- what an __init__ promises -/
def QI (K : PySem.W.Frag) (G H0 : Hp) (x : Addr) (Q : VK) (E : XK) : OI → Prop
  | .stuck => False
  | .ok C fs => ∀ dx vs G' H', Ext G H0 G' H' → G' x = none → H' x = some (.ins C dx ((fs.map (·.1)).zip vs)) → Dats K G' (fs.map (·.2)) vs → Q .non H'
  | .exc C ns ds => ∀ dx vs G' H', Ext G H0 G' H' → H' dx = some (.xd (ns.zip vs)) → ns.length = ds.length → Dats K G' ds vs → E (.ref C) (some dx) H'
def spI (K : PySem.W.Frag) (C : Addr) (n : Nat) (F : List D → OI) : Sp := fun vs H Q E => ∃ H0 G ds x dx us, vs = .ref x :: us ∧ Same G H0 ∧ Same H0 H ∧ H0 x = none ∧ H x = some (.ins C dx []) ∧ Dats K G ds us ∧ ds.length = n ∧ QI K G H0 x Q E (F ds)
def FldOf (K : PySem.W.Frag) (C : Addr) (f : Str) : Prop := NoAttr K C f
theorem zip_putF {K : PySem.W.Frag} {G : Hp} (f : Str) {d : D} {v : V} (hd : Dat K G d v) : ∀ {fs : List (Str × D)} {vs : List V}, Dats K G (fs.map (·.2)) vs → ∃ ws, putF f v ((fs.map (·.1)).zip vs) = ((putD f d fs).map (·.1)).zip ws ∧ Dats K G ((putD f d fs).map (·.2)) ws
  | [], vs, h => by
    rw [h.nil_inv]
    exact ⟨[v], rfl, .cons hd .nil⟩
  | (k, x) :: fs, vs, h => by
    obtain ⟨u, r, rfl, h1, h2⟩ := h.cons_inv
    by_cases hk : k = f
    · subst hk
      refine ⟨v :: r, ?_, ?_⟩
      · simp only [putD, if_pos, List.map_cons, List.zip_cons_cons, putF]
      · simp only [putD, if_pos, List.map_cons]; exact .cons hd h2
    · obtain ⟨ws, e1, e2⟩ := zip_putF f hd h2
      refine ⟨u :: ws, ?_, ?_⟩
      · simp only [putD, if_neg hk, List.map_cons, List.zip_cons_cons, putF, e1]
      · simp only [putD, if_neg hk, List.map_cons]; exact .cons h1 e2
theorem putD_ne (f : Str) (d : D) : ∀ fs : List (Str × D), (putD f d fs).length ≤ fs.length + 1
  | [] => by simp [putD]
  | (k, x) :: r => by
    have := putD_ne f d r
    unfold putD
    split <;> simp <;> omega
/-- self.f = e -/
theorem ds_fld (i : Nat) {x f : Str} {npos pos' : Pos} {fe : PE'} (h : DP X W e fe) {C0 : Addr} (cl : Cls X.K C0) (na : NoAttr X.K C0 f) (hN : X.N[i]? = some x := by rfl) (hv : Vis X.env.scope x := by first | exact Or.inl rfl | exact Or.inr (Or.inl rfl) | exact Or.inr (Or.inr rfl)) (hd : (x == ("__debug__" : Str)) = false := by decide)
    (hcd : (x == ("__classdict__" : Str)) = false := by decide) (hs : swapsWith e (some (.Attribute (.Name x npos) f pos')) pos.line X.env = pure false := by rfl) : DS X W (.Assign [.Attribute (.Name x npos) f pos'] e pos) (sFld i C0 f fe) := by
  obtain ⟨t, p, q⟩ := h.ex
  refine ⟨_, ps_fld (pe_var hN hv hd hcd) p hs, fun pn G0 H0 ρ σ G H D R h => q ρ σ G H _ R.rs ((QS.op R h).imp fun d G1 H1 _ x1 k v dv => ?_)⟩
  have R1 := R.to x1
  cases hj : ρ[i]? with
  | none => rw [hj] at k; exact k.elim
  | some s =>
    cases s with
    | mo C fs =>
      rw [hj] at k
      dsimp only at k
      obtain ⟨a, dx, vs, ea, h1, h2, h3⟩ := R1.rs.sl i _ hj
      by_cases hl : C = C0 ∧ fs.length < 100
      · rw [if_pos hl] at k
        obtain ⟨rfl, hl⟩ := hl
        obtain ⟨ws, e1, e2⟩ := zip_putF f dv h3
        refine ⟨_, ea, a, C, dx, _, rfl, h1, cl, na, ?_, ?_⟩
        · have := h3.len
          rw [List.length_zip, List.length_map]
          omega
        · rw [e1]
          exact k σ G1 _ (R1.write hj trivial trivial ea (fun fs => by rw [h1]; simp) (fun C' fs' z => by cases z; exact ⟨_, _, rfl⟩) ⟨a, dx, ws, rfl, upd_same, h2, e2⟩) (Same.refl _)
      · rw [if_neg hl] at k; exact k.elim
    | _ => rw [hj] at k; exact k.elim
end
end Pu
end
section
/-! Pu, the layer: classes. -/
namespace Pu
open PySem PySem.Spec L2
open PyProof.Rows hiding St
section
variable {P : Program} {w : World} {K : PySem.W.Frag} {mg : Str → Option Value} {base : Heap}
theorem rep_init {K : PySem.W.Frag} {G H0 H : Hp} {n : Nat} {ds : List D} {vs : List V} {x C dx : Addr} (s0 : Same G H0) (s1 : Same H0 H) (nx : H0 x = none) (hx : H x = some (.ins C dx [])) (h : Dats K G ds vs) (hl : ds.length + 1 ≤ n) :
    Rep K x G H0 (.mo C [] :: (ds.map .im ++ List.replicate (n - (ds.length + 1)) .no)) (some (.ref x) :: (vs.map some ++ List.replicate (n - (vs.length + 1)) none)) G H := by
  have e := h.len
  have own : ∀ i : Nat, Own (S.mo C [] :: (ds.map S.im ++ List.replicate (n - (ds.length + 1)) S.no))[i]? → i = 0 := fun i w => by
    cases i with
    | zero => rfl
    | succ i =>
      exfalso
      rw [List.getElem?_cons_succ] at w
      by_cases hi : i < ds.length
      · rw [List.getElem?_append_left (by simpa using hi), List.getElem?_map, List.getElem?_eq_getElem hi] at w
        exact w
      · rw [List.getElem?_append_right (by simpa using hi), List.getElem?_replicate] at w
        split at w <;> exact w
  refine ⟨⟨by simp only [List.length_cons, List.length_append, List.length_map, List.length_replicate]; omega, s0.trans s1, fun i t q => ?_⟩, ⟨Same.refl _, s1, s0.trans s1, fun a z => .inl z⟩, fun i p w z => ?_, fun i j p ne w1 w2 => absurd ((own i w1).trans (own j w2).symm) ne, fun i C' fs q => ?_⟩
  · cases i with
    | zero =>
      rw [List.getElem?_cons_zero] at q
      cases q
      exact ⟨x, dx, [], rfl, hx, s0.free nx, .nil⟩
    | succ i =>
      rw [List.getElem?_cons_succ] at q ⊢
      by_cases hi : i < ds.length
      · rw [List.getElem?_append_left (by simpa using hi), List.getElem?_map, List.getElem?_eq_getElem hi] at q
        cases q
        obtain ⟨v, e1, e2⟩ := h.get (List.getElem?_eq_getElem hi)
        refine ⟨v, ?_, e2⟩
        rw [List.getElem?_append_left (by simp; omega), List.getElem?_map, e1]; rfl
      · rw [List.getElem?_append_right (by simpa using hi), List.getElem?_replicate] at q
        split at q
        · cases q; trivial
        · cases q
  · cases own i w
    rw [List.getElem?_cons_zero] at z
    cases z
    exact nx
  · have := own i (by rw [q]; trivial)
    subst this
    rfl
theorem start_init {N : List Str} {x : Addr} {us : List V} : L2.start N (.ref x :: us) = some (.ref x) :: (us.map some ++ List.replicate (N.length - (us.length + 1)) none) := rfl
/-- THE RULE for an __init__ -/
theorem fn_init {qual : Str} {st : Stmt} {f C : Addr} {fd : FuncData} {N ps : List Str} {k : Nat} {g : SS} (F : Fun K "__init__" qual st f fd) (S : FnScope N ("self" :: ps) (defScope st)) (hl : ps.length + 1 ≤ N.length)
    (hb : ∀ (cdv : Value) (A : Around) (outer : List Env) (s : Shared) (H : Hp) (E : XK), Room k (A.deeper (envOfC qual (defScope st) s.heap.objs.size f cdv)) →
      DSs (cxOf (L2.CX P w) P w K mg base N qual (defScope st) f cdv A outer s H E) (fun cls d _ H => E cls d H) (defBody st) g) :
    FnOk P w K mg base (L2.CX P w) (k + 1) f fd ("self" :: ps) (spI K C ps.length (runI N.length ps.length g C)) := by
  refine F.okX S (fun vs H Q E h => ?_) (fun cdv A outer s H vs Q E hr h => ?_)
  · obtain ⟨H0, G, ds, x, dx, us, rfl, _, _, _, _, h1, h2, _⟩ := h
    rw [List.length_cons, List.length_cons, ← h1.len, h2]
  · obtain ⟨H0, G, ds, x, dx, us, rfl, s0, s1, nx, hx, h1, h2, q⟩ := h
    obtain ⟨t, p, k⟩ := (hb cdv A outer s H E hr).ex
    refine ⟨t, p, k x G H0 _ _ G H _ (rep_init (n := N.length) s0 s1 nx hx h1 (by omega)) ?_⟩
    unfold runI at q
    rw [if_pos h2] at q
    cases o : g (.mo C [] :: (ds.map .im ++ List.replicate (N.length - (ds.length + 1)) .no)) with
    | stuck => rw [o] at q; exact q
    | nx ρ =>
      rw [o] at q
      dsimp only at q
      intro σ G' H' R _
      cases ρ with
      | nil => exact q.elim
      | cons a ρ =>
        cases a with
        | mo C' fs =>
          obtain ⟨a, dx', vs, e1, e2, e3, e4⟩ := R.rs.sl 0 (.mo C' fs) rfl
          have e5 := R.mo 0 C' fs rfl
          rw [e1] at e5
          cases e5
          dsimp only [List.head?] at q
          by_cases hc : C' = C
          · rw [if_pos hc] at q
            subst hc
            exact q dx' vs G' H' R.ext e3 e2 e4
          · rw [if_neg hc] at q; exact q.elim
        | _ => exact q.elim
    | bk ρ => rw [o] at q; exact q.elim
    | ct ρ => rw [o] at q; exact q.elim
    | ret r =>
      rw [o] at q
      exfalso
      cases r with
      | val d => cases d <;> exact q
      | fresh d => exact q
    | exc C ns ds ρ => rw [o] at q; exact fun σ dx vs G' H' R s1 a b c => q dx vs G' H' R.ext a b c
end
section
variable {X : Cx} {W : WX} {e e1 e2 : Expr} {es : List Expr} {f f1 f2 : PE'} {t1 t2 : PT'} {g g1 g2 : SS} {pos : Pos} {st : Stmt} {r r1 r2 : List Stmt}
variable {CX : CXT} {k : Nat} {fa C : Addr} {fd : FuncData} {ps : List Str} {sp : Sp} {E : St → XK} {x : Str} {p : Pos} {t : TA}
def tMakeS (C : Addr) (sp : Sp) (E : St → XK) (t : TA) : TE := fun σ H Q => t σ H fun vs H1 => ∀ x dx, H1 x = none → H1 dx = none → dx ≠ x →
  sp (.ref x :: vs) (upd (upd H1 dx (.own x)) x (.ins C dx [])) (fun v H2 => v = .non ∧ Q (.ref x) H2) (E σ)
theorem run_makeS {pins : List (Addr × Obj)} {σ : St} {H : Hp} {s : Shared} {Q : VK} {us : List Value} {vs : List V} (M : Mk X.K C fa) (F : FnOk X.prog X.w X.K X.mg X.base CX k fa fd ps sp) (hr : Room (k + 1) X.A) (hb : Binds X.K fd ps [])
    (hx : PassesAt CX X σ (E σ)) (I : Inv X pins σ H s) (r : Vals vs us)
    (h : ∀ x dx, H x = none → H dx = none → dx ≠ x → sp (.ref x :: vs) (upd (upd H dx (.own x)) x (.ins C dx [])) (fun v H2 => v = .non ∧ Q (.ref x) H2) (E σ)) :
    wpAny (model X.prog X.w) X.A (call (.ref C) us) (EP X pins σ Q) X.xe s := by
  have hq := h (s.heap.objs.size + 1) s.heap.objs.size (I.hok.fresh (Nat.le_succ _)) (I.hok.fresh (Nat.le_refl _)) (Nat.ne_of_lt (Nat.lt_succ_self _))
  have I2 := Inv.made (C := C) I
  have r2 : Vals (V.ref (s.heap.objs.size + 1) :: vs) (Value.ref (s.heap.objs.size + 1) :: us) := .cons rfl r
  have hl : (Value.ref (s.heap.objs.size + 1) :: us).length = ps.length := by
    have e := r2.length
    rw [F.len _ _ _ _ hq] at e
    exact e.symm
  have b := hb _ (Value.ref (s.heap.objs.size + 1) :: us) I2.kIn (by rw [List.append_nil]; exact hl)
  rw [List.append_nil] at b
  refine wpAny_call (make_map (f := fa) I.kIn M.makes M.init (beq_iff_eq.mp M.fn) (codeAny_mono (F.run _ X.stack _ _ ⟨Value.ref (s.heap.objs.size + 1) :: us, []⟩ (Value.ref (s.heap.objs.size + 1) :: us) _ _ (E σ) (hr.make C us [])
    (I2.env0.make C us []) b r2 hq) fun r s' hq' => ?_))
  cases r with
  | error e => exact hx pins _ _ e s' I2 hq'
  | ok fl =>
    cases fl with
    | ret u =>
      obtain ⟨v, H', I3, rv, ev, q3⟩ := I2.after hq'
      subst ev
      exact ⟨rv, ⟨V.ref (s.heap.objs.size + 1), H', I3, rfl, q3⟩⟩
    | next => exact False.elim hq'
    | brk => exact False.elim hq'
    | cont => exact False.elim hq'
theorem pe_makeS (M : Mk X.K C fa) (F : FnOk X.prog X.w X.K X.mg X.base CX k fa fd ps sp) (hr : Room (k + 1) X.A) (hg : Gl X x) (hm : X.mg x = some (.ref C)) (hb : Binds X.K fd ps []) (hx : ∀ σ, PassesAt CX X σ (E σ))
    (ha : PA X (e :: es) t) (hdb : (x == ("__debug__" : Str)) = false := by decide) (he : starEach (e :: es) X.env = (false, eval e X.env) :: starEach es X.env := by rfl) (hpl : (backTo pos (starEach es X.env)).any (·.1) = false := by rfl) :
    PE X (.Call (.Name x p) (e :: es) [] pos) (tMakeS C sp E t) := by
  refine ⟨fun pins s σ H Q I h => ?_⟩
  refine wpAny_Call_Name_kw (ld_glob I hg hm ?_ hdb)
  refine PySem.W.callWith_K (h₀ := X.base) I.ok.mod.kin M.kp (thn (ha.run pos pins s σ H _ I h) fun us s1 ⟨vs, H1, I1, r, q⟩ => ⟨I1.kIn, ?_⟩) he hpl
  exact run_makeS M F hr hb (hx σ) I1 r q
/-- C(..) -/
theorem dp_make {as : List PE'} {F : List D → OI} {n : Nat} (M : Mk X.K C fa) (FO : FnOk X.prog X.w X.K X.mg X.base (L2.CX X.prog X.w) k fa fd ps (spI X.K C n F)) (hr : Room (k + 1) X.A) (hm : X.mg x = some (.ref C)) (hb : Binds X.K fd ps []) (hC : ∀ ds C' fs, F ds = .ok C' fs → C' = C)
    (tk : Takes X W) (ha : DA X W (e :: es) (pArgs as)) (hn : ∀ ρ ds, pArgs as ρ = .ok ds → ds.length = n) (hg : Gl X x := by rfl) (hdb : (x == ("__debug__" : Str)) = false := by decide) (he : starEach (e :: es) X.env = (false, eval e X.env) :: starEach es X.env := by rfl) (hpl : (backTo pos (starEach es X.env)).any (·.1) = false := by rfl) :
    DP X W (.Call (.Name x p) (e :: es) [] pos) (pMake F as) := by
  obtain ⟨t, p, q⟩ := ha.ex
  refine ⟨_, pe_makeS (E := fun σ cls d H => W cls d σ H) M FO hr hg hm hb (fun σ => passAt tk σ) p hdb he hpl, fun ρ σ G H Q R h => q ρ σ G H _ R (QG.imp (QG.bind h) fun ds G1 H1 ho x1 k vs dv => fun y dx ny ndx nex => ?_)⟩
  have sH : Same H1 (upd (upd H1 dx (.own y)) y (.ins C dx [])) := fun b o e => by
    rw [upd_ne (ne_of_none e ny), upd_ne (ne_of_none e ndx)]; exact e
  refine ⟨H1, G1, ds, y, dx, vs, rfl, x1.sub, sH, ny, upd_same, dv, hn ρ ds ho, ?_⟩
  cases hf : F ds with
  | stuck => rw [hf] at k; exact k
  | exc C ns es => rw [hf] at k; exact k
  | ok C' fs =>
    rw [hf] at k
    have := hC ds C' fs hf
    subst this
    intro dx' us G' H' x2 g2 e2 d2
    refine ⟨rfl, ?_⟩
    have x3 := x2.fix' ny g2 e2
    have k' : QP X.K W σ G1 H1 Q (.ok (.obj C' (fs.map (·.1)) (fs.map (·.2)))) := k
    exact k' _ H' x3 (.ref y) (Dat.obj_iff.mpr ⟨y, dx', us, rfl, upd_same, by rw [List.length_map, List.length_map], d2.mono (same_upd g2)⟩)
/-- o.f of an object -/
theorem lookup_zip {K : PySem.W.Frag} {G : Hp} {f : Str} {d : D} : ∀ {ns : List Str} {ds : List D} {vs : List V}, Dats K G ds vs → (ns.zip ds).lookup f = some d → ∃ v, (ns.zip vs).lookup f = some v ∧ Dat K G d v
  | [], ds, vs, _, h => by simp at h
  | n :: ns, [], vs, _, h => by simp at h
  | n :: ns, d' :: ds, vs, r, h => by
    obtain ⟨v, us, rfl, h1, h2⟩ := r.cons_inv
    rw [List.zip_cons_cons, List.lookup_cons] at h
    rw [List.zip_cons_cons, List.lookup_cons]
    cases hb : f == n with
    | true => rw [hb] at h; cases h; exact ⟨v, rfl, h1⟩
    | false => rw [hb] at h; exact lookup_zip h2 h
/-- o.f, o an object of the class C -/
def oFld (C : Nat) (f : Str) : D → Option D
  | .obj C' ns vs => if C' = C then (ns.zip vs).lookup f else none
  | _ => none
theorem dp_fld {f : Str} {fe : PE'} {C : Addr} (h : DB X W e fe) (cl : Cls X.K C) (na : NoAttr X.K C f) (hb : attributeBase e f X.env (eval e X.env) = eval e X.env := by rfl) : DP X W (.Attribute e f pos) (p1 (oFld C f) fe) := by
  obtain ⟨t, p, q⟩ := h.ex
  refine ⟨_, pe_fld p hb, fun ρ σ G H Q R h => q ρ σ G H _ R (QG.imp (QG.bind h) fun d G1 H1 ho x1 k v bv => ?_)⟩
  obtain ⟨a, ea, k2⟩ := QG.of x1.sub k
  cases d with
  | obj C' ns ds =>
    have ea' : (if C' = C then (ns.zip ds).lookup f else none) = some a := ea
    by_cases hc : C' = C
    · rw [if_pos hc] at ea'
      subst hc
      obtain ⟨b, dx, vs, rfl, h1, h2, h3⟩ := Dat.obj_iff.mp (bv.dat fun _ => by simp)
      obtain ⟨u, e1, e2⟩ := lookup_zip h3 ea'
      exact ⟨b, C', dx, _, u, rfl, x1.sub _ _ h1, cl, na, e1, k2 G1 H1 (.refl x1.sub) u e2⟩
    · rw [if_neg hc] at ea'; cases ea'
  | _ => cases ea
/-- a constant of the module that is data -/
theorem dp_glob {x : Str} {v : V} {u : Value} {d : D} (hm : X.mg x = some u) (r : RelV v u) (hd : ∀ K G, Dat K G d v) (hg : Gl X x := by rfl) (hdb : (x == ("__debug__" : Str)) = false := by decide) : DP X W (.Name x pos) (pC d) :=
  ⟨_, pe_glob hg hm r hdb, fun ρ σ G H Q R h => h G H (.refl R.sub) v (hd _ _)⟩
theorem dp_globI {x : Str} {i : Int} {tk : Tok} (hm : X.mg x = some (.int i tk)) (hg : Gl X x := by rfl) (hdb : (x == ("__debug__" : Str)) = false := by decide) : DP X W (.Name x pos) (pC (.int i)) :=
  dp_glob (v := .int i) hm ⟨tk, rfl⟩ (fun _ _ => Dat.int_iff.mpr rfl) hg hdb
end
end Pu
end
section
set_option maxHeartbeats 4000000
/-! Pu: sorted of lists, tuples, dicts, of ints and of tuples of ints, of any length. -/
namespace Pu
open PySem PyProof.Rows SrtO
theorem swoK {α : Type} (k : α → List Int) : Swo fun v u => lexI (k v) (k u) := ⟨fun x y h => lexI_asym _ _ h, fun x y z h1 h2 => lexI_tr _ _ _ h1 h2⟩
section
variable {prog : Program} {w : World} {A : Around} {E : Value → Shared → Prop} {s : Shared}
theorem lex_intsG {b : Bool} {Q : Bool → Shared → Prop} {xs ys : List Value} {ns ms : List Int} (i : Nat) (hx : IntsAre xs ns) (hy : IntsAre ys ms) (h : Q (lexI ns ms) s) : PySem.W.KatLex prog w A b (decide (xs.length < ys.length)) Q (xs.zip ys) i s := by
  induction hx generalizing ys ms i with
  | nil =>
    cases hy with
    | nil => exact PySem.W.kat_nil h
    | @cons q u ys ms hy =>
      have e : decide (([] : List Value).length < (Value.int q u :: ys).length) = true := decide_eq_true (by simp)
      rw [e]
      exact PySem.W.kat_nil h
  | @cons p t xs ns hx ih =>
    cases hy with
    | nil =>
      have e : decide ((Value.int p t :: xs).length < ([] : List Value).length) = false := decide_eq_false (by simp)
      rw [e]
      exact PySem.W.kat_nil h
    | @cons q u ys ms hy =>
      have e0 : decide ((Value.int p t :: xs).length < (Value.int q u :: ys).length) = decide (xs.length < ys.length) := by simp
      rw [e0]
      show PySem.W.KatLex prog w A b (decide (xs.length < ys.length)) Q ((Value.int p t, Value.int q u) :: xs.zip ys) i s
      refine PySem.W.kat_cons (wpAny_eqBool_int ?_)
      unfold lexI at h
      by_cases e : p = q
      · subst e
        rw [beq_self_eq_true]
        rw [if_pos rfl] at h
        exact PySem.W.kat_yes (ih (i + 1) hy h)
      · rw [show (p == q) = false from beq_eq_false_iff_ne.mpr e]
        rw [if_neg e] at h
        exact PySem.W.kat_no (TS.oneLt_ints _ h)
/-- v is a tuple of the ints ns in the heap -/
theorem tup_cmp {vs : List Value} {k : Value → List Int} (hp : ∀ v ∈ vs, TS.TupInts s.heap v (k v)) : Cmp prog w A s (tuples' true) (fun p => p.1 ∈ vs) (lt2 fun v u => lexI (k v) (k u)) := by
  intro p q hm hm'
  have h1 := hp _ hm
  have h2 := hp _ hm'
  show wpAny (model prog w) A (keyLt' (tuples' true) p.1 q.1) (fun r s' => s' = s ∧ r = lexI (k p.1) (k q.1)) (fun _ _ => False) s
  generalize k p.1 = ns at h1 ⊢
  generalize k q.1 = ms at h2 ⊢
  obtain ⟨a, xs, e1, ⟨o, ho, hc, n, hd⟩, i1⟩ := h1
  obtain ⟨a', ys, e2, ⟨o', ho', hc', n', hd'⟩, i2⟩ := h2
  rw [e1, e2]
  refine PySem.W.kat_lt ho hd ho' hd' ?_
  have := lex_intsG (prog := prog) (w := w) (A := A) (b := true) (Q := fun r s' => s' = s ∧ r = lexI ns ms) 0 i1 i2 ⟨rfl, rfl⟩
  simpa using this
theorem firstsG {h : Heap} {k : Value → List Int} : ∀ {vs : List Value}, (∀ v ∈ vs, TS.TupInts h v (k v) ∧ k v ≠ []) → ∃ fs : List Value, PySem.W.KatTups h vs fs ∧ fs.length = vs.length ∧ ∀ f ∈ fs, ∃ x t, f = Value.int x t
  | [], _ => ⟨[], PySem.W.KatTups.nil, rfl, fun _ hm => by simp at hm⟩
  | v :: vs, hp => by
    obtain ⟨fs, h1, h2, h3⟩ := firstsG (vs := vs) fun v' hm => hp v' (List.mem_cons_of_mem _ hm)
    obtain ⟨⟨a, xs, e, ⟨o, ho, hc, n, hd⟩, hi⟩, hne⟩ := hp v (List.mem_cons_self ..)
    subst e
    obtain ⟨ys, hys⟩ : ∃ ys : List Value, ys = xs.toList := ⟨_, rfl⟩
    rw [← hys] at hi
    generalize k (Value.ref a) = ks at hi hne
    cases hi with
    | nil => exact absurd rfl hne
    | @cons p t ys ns hi =>
      have hx : xs = (Value.int p t :: ys).toArray := by rw [hys]
      subst hx
      refine ⟨.int p t :: fs, PySem.W.KatTups.cons ho hc hd rfl h1, by rw [List.length_cons, List.length_cons, h2], fun f hm => ?_⟩
      rcases List.mem_cons.mp hm with rfl | hm
      · exact ⟨p, t, rfl⟩
      · exact h3 f hm
theorem tups_sortableO {a : Addr} {vs : List Value} {k : Value → List Int} (h0 : 0 < vs.length) (hp : ∀ v ∈ vs, TS.TupInts s.heap v (k v) ∧ k v ≠ []) (ha : ∀ o, s.heap.get? a = some o → o.cls ≠ .type "tuple") : SortableO prog w A s a vs fun v u => lexI (k v) (k u) := by
  intro h' keep
  have hp' : ∀ v ∈ vs, TS.TupInts h' v (k v) ∧ k v ≠ [] := fun v hm => ⟨(hp v hm).1.keeps fun b o e c => keep b o (fun z => by subst z; exact ha o e c) e, (hp v hm).2⟩
  obtain ⟨fs, h1, h2, h3⟩ := firstsG hp'
  refine ⟨tuples' true, fun Q E hq => ?_, tup_cmp fun v hm => (hp' v hm).1⟩
  refine PySem.W.kat_kind (T := .type "int") h1 (by omega) (fun f hm => ?_) (by rfl) ?_
  · obtain ⟨x, t, rfl⟩ := h3 f hm
    exact PySem.W.Looks.now
  · have e : (Value.type "int" != Value.type "tuple") = true := by first | decide +kernel | rfl | decide
    rw [e]
    exact hq
theorem collect_tuple {l : Addr} {vs : List Value} {Q : List Value → Shared → Prop} (hl : IsTup s.heap l vs.toArray)
    (h : Q vs { s with heap := (s.heap.push (seqObj "list" #[] 0)).update s.heap.objs.size (Obj.mapSeq (· ++ vs.toArray)) }) (hsz : vs.length ≤ sizeLine := by size_fits) :
    wpAny (model prog w) A (collect (.ref l)) Q E s := by
  obtain ⟨o, ho, hc, n, hd⟩ := id hl
  unfold collect
  refine wpAny_bind (wpAny_runValue (codeAny_builtin entry_proto_collect' ?_))
  show wpAny _ _ (do again (.builtin "list.__iadd__" ⟨[← newList [], .ref l], []⟩)) _ _ s
  refine wpAny_bind (wpAny_newList (wpAny_pure ⟨Code.quiet_builtin _ (by decide +kernel), codeAny_builtin entry_list_iadd' ?_⟩))
  show wpAny _ _ (Builtin.List.listExtendWith (.ref s.heap.objs.size) (.ref l) (.ref s.heap.objs.size)) _ _ { s with heap := s.heap.push (seqObj "list" #[] 0) }
  unfold Builtin.List.listExtendWith
  have ho' : (s.heap.push (seqObj "list" #[] 0)).get? l = some o := Heap.get?_push_of_some _ ho
  refine wpAny_bind (wpAny_typeOf (T := "tuple") ⟨o, ho', hc⟩ ?_)
  have ht : (Value.type "tuple" == Value.type "tuple") = true := by rfl
  rw [if_pos (by rw [ht]; simp)]
  refine wpAny_bind (listItems_at ho' hd ?_)
  refine wpAny_bind (listItems_at (xs := #[]) (n := 0) (Heap.get?_push_size _ rfl) rfl ?_)
  rw [if_neg (by simp)]
  refine wpAny_bind (listUpdate_at (xs := #[]) (n := 0) (Heap.get?_push_size _ rfl) rfl ?_ (Nat.zero_le _) (by show (#[] ++ vs.toArray).size ≤ sizeLine + 1; simp only [Array.size_append, List.size_toArray, List.length_nil]; omega))
  refine wpAny_pure ?_
  show wpAny (model prog w) A (do
      let o ← load s.heap.objs.size
      match o.data with
      | .seq xs _ => pure xs.toList
      | _ => unsupported "internal:collect") Q E { s with heap := (s.heap.push (seqObj "list" #[] 0)).update s.heap.objs.size (Obj.mapSeq (· ++ vs.toArray)) }
  refine wpAny_bind (wpAny_load (get?_update_seq (Heap.get?_push_size _ rfl) _) ?_)
  show wpAny _ _ (pure ((#[] : Array Value) ++ vs.toArray).toList) Q E _
  rw [show ((#[] : Array Value) ++ vs.toArray).toList = vs by simp]
  exact wpAny_pure h
/-- what sorted walks: its items are collected -/
def Src (prog : Program) (w : World) (A : Around) (s : Shared) (x : Value) (vs : List Value) : Prop :=
  ∀ (Q : List Value → Shared → Prop) (E : Value → Shared → Prop), (∀ h' tk, (∀ b o, s.heap.get? b = some o → h'.get? b = some o) → Q vs { s with heap := h', toks := tk }) → wpAny (model prog w) A (collect x) Q E s
theorem src_push {vs : List Value} : ∀ b o, s.heap.get? b = some o → ((s.heap.push (seqObj "list" #[] 0)).update s.heap.objs.size (Obj.mapSeq (· ++ vs.toArray))).get? b = some o := fun b o q => by
  rw [Heap.get?_update_ne _ _ _ _ (Nat.ne_of_lt (Heap.lt_size q))]
  exact Heap.get?_push_of_some _ q
theorem src_list {l : Addr} {vs : List Value} (hl : s.heap.IsList l vs.toArray) (hz : vs.length ≤ sizeLine) : Src prog w A s (.ref l) vs := fun Q E h => collect_list hl (h _ s.toks src_push) hz
theorem src_tuple {l : Addr} {vs : List Value} (hl : IsTup s.heap l vs.toArray) (hz : vs.length ≤ sizeLine) : Src prog w A s (.ref l) vs := fun Q E h => collect_tuple hl (h _ s.toks src_push) hz
/-- sorted(x) -/
theorem sorted_src {x : Value} {vs : List Value} {ltv : Value → Value → Bool} {Q : Value → Shared → Prop} (O : Swo ltv) (S : Src prog w A.in1 s x vs) (hz : vs.length ≤ sizeLine)
    (hS : 2 ≤ vs.length → ∀ (s₁ : Shared) (a : Addr), s₁.heap.get? a = some (seqObj "list" vs.toArray 0) → (∀ b o, s.heap.get? b = some o → b ≠ a ∧ s₁.heap.get? b = some o) → SortableO prog w A.in1.in1 s₁ a vs ltv)
    (h : ∀ (h1 h' : Heap) (tk : Nat) (d : Addr) (out : List Value), Srtd ltv out → Stb ltv out vs → (∀ b o, s.heap.get? b = some o → h1.get? b = some o) → (∀ b o, h1.get? b = some o → h'.get? b = some o) → h1.objs.size ≤ d → (∃ n, h'.get? d = some (seqObj "list" out.toArray n)) → Q (.ref d) { s with heap := h', toks := tk }) :
    wpAny (model prog w) A (call (.builtin "sorted") [x]) Q E s := by
  refine Calls.call_function_entry kind_sorted plain_sorted entry_sorted (args_sorted1 _) ?_
  unfold Builtin.«sorted»
  refine wpAny_bind (m := checkCount "sorted" 1 1 _) (wpAny_pure ?_)
  refine wpAny_bind (S _ _ fun h1 tk k1 => ?_)
  refine wpAny_bind (wpAny_newList ?_ hz)
  have hoL : (h1.push (seqObj "list" vs.toArray 0)).get? h1.objs.size = some (seqObj "list" vs.toArray 0) := Heap.get?_push_size _ rfl
  have keep : ∀ b o, s.heap.get? b = some o → b ≠ h1.objs.size ∧ (h1.push (seqObj "list" vs.toArray 0)).get? b = some o := fun b o q =>
    ⟨Nat.ne_of_lt (Heap.lt_size (k1 b o q)), Heap.get?_push_of_some _ (k1 b o q)⟩
  show wpAny _ _ _ _ _ { s with heap := h1.push (seqObj "list" vs.toArray 0), toks := tk }
  refine wpAny_bind (wpAny_holding (wpAny_call_entry slot_list_sort ⟨_, hoL, rfl⟩ entry_list_sort (list_sort_ord O hoL hz (fun h2 => hS h2 _ _ hoL keep) fun out hs hb => ⟨_, rfl, ?_⟩) (args_list_sort _)))
  refine wpAny_pure ⟨_, rfl, h h1 _ tk h1.objs.size out hs hb k1 (fun b o q => ?_) (Nat.le_refl _) ?_⟩
  · rw [sortedHeap_old (Nat.ne_of_lt (Heap.lt_size q)) (by rw [size_push']; exact Nat.lt_succ_of_lt (Heap.lt_size q))]
    exact Heap.get?_push_of_some _ q
  · obtain ⟨e', he'⟩ := sortedHeap_at (vs := vs) (out := out.toArray) hoL
    exact ⟨e', he'⟩
end
end Pu
end
section
set_option maxHeartbeats 1000000
/-! Pu, the layer: built-ins. -/
namespace Pu
open PySem PySem.Spec L2
open PyProof.Rows hiding St
section
variable {X : Cx} {W : WX} {e e1 e2 : Expr} {es : List Expr} {f f1 f2 : PE'} {t1 t2 : PT'} {g g1 g2 : SS} {pos : Pos} {st : Stmt} {x : Str} {p : Pos} {as : List PE'}
theorem dp_bi {id : String} {r : List V → Hp → VK → Prop} {h : List D → Option D} (hc : CallR X (.builtin id) r) (v : VN X r h) (hm : X.mg x = none) (hv : bootBuiltins x = some (.builtin id)) (ha : DBA X W (e :: es) (pArgs as)) (hg : Gl X x := by rfl) (hn : x ≠ "__name__" := by decide) (hdb : (x == ("__debug__" : Str)) = false := by decide)
    (he : starEach (e :: es) X.env = (false, eval e X.env) :: starEach es X.env := by rfl) (hpl : (backTo pos (starEach es X.env)).any (·.1) = false := by rfl) : DP X W (.Call (.Name x p) (e :: es) [] pos) (pN h as) := by
  obtain ⟨t, p, q⟩ := ha.ex
  refine ⟨_, pe_callB hc hg hm hv p hn hdb he hpl, fun ρ σ G H Q R k => q ρ σ G H _ R (QG.imp (QG.bind k) fun ds G1 H1 _ x1 k1 vs dv => ?_)⟩
  obtain ⟨a, ea, k2⟩ := QG.of x1.sub k1
  exact v G1 H1 ds vs a Q x1.sub dv ea k2
theorem dp_ty {T : String} {r : List V → Hp → VK → Prop} {h : List D → Option D} (hc : CallR X (.type T) r) (v : VN X r h) (hm : X.mg x = none) (hv : bootBuiltins x = some (.type T)) (ha : DBA X W (e :: es) (pArgs as)) (hg : Gl X x := by rfl) (hn : x ≠ "__name__" := by decide) (hdb : (x == ("__debug__" : Str)) = false := by decide)
    (he : starEach (e :: es) X.env = (false, eval e X.env) :: starEach es X.env := by rfl) (hpl : (backTo pos (starEach es X.env)).any (·.1) = false := by rfl) : DP X W (.Call (.Name x p) (e :: es) [] pos) (pN h as) := by
  obtain ⟨t, p, q⟩ := ha.ex
  refine ⟨_, pe_callTy hc hg hm hv p hn hdb he hpl, fun ρ σ G H Q R k => q ρ σ G H _ R (QG.imp (QG.bind k) fun ds G1 H1 _ x1 k1 vs dv => ?_)⟩
  obtain ⟨a, ea, k2⟩ := QG.of x1.sub k1
  exact v G1 H1 ds vs a Q x1.sub dv ea k2
theorem df_bi {id : String} {r : List V → Hp → VK → Prop} {h : List D → Option (List D)} (hc : CallR X (.builtin id) r) (v : VF X r h) (hm : X.mg x = none) (hv : bootBuiltins x = some (.builtin id)) (ha : DBA X W (e :: es) (pArgs as)) (hg : Gl X x := by rfl) (hn : x ≠ "__name__" := by decide) (hdb : (x == ("__debug__" : Str)) = false := by decide)
    (he : starEach (e :: es) X.env = (false, eval e X.env) :: starEach es X.env := by rfl) (hpl : (backTo pos (starEach es X.env)).any (·.1) = false := by rfl) : DF X W (.Call (.Name x p) (e :: es) [] pos) (fN h as) := by
  obtain ⟨t, p, q⟩ := ha.ex
  refine ⟨_, pe_callB hc hg hm hv p hn hdb he hpl, fun ρ σ G H Q R k => q ρ σ G H _ R ((QF.bind k).imp fun ds G1 H1 _ x1 k1 vs dv => ?_)⟩
  obtain ⟨a, ea, k2⟩ := QG.of x1.sub k1
  exact v G1 H1 ds vs a Q x1.sub dv ea k2
theorem df_ty {T : String} {r : List V → Hp → VK → Prop} {h : List D → Option (List D)} (hc : CallR X (.type T) r) (v : VF X r h) (hm : X.mg x = none) (hv : bootBuiltins x = some (.type T)) (ha : DBA X W (e :: es) (pArgs as)) (hg : Gl X x := by rfl) (hn : x ≠ "__name__" := by decide) (hdb : (x == ("__debug__" : Str)) = false := by decide)
    (he : starEach (e :: es) X.env = (false, eval e X.env) :: starEach es X.env := by rfl) (hpl : (backTo pos (starEach es X.env)).any (·.1) = false := by rfl) : DF X W (.Call (.Name x p) (e :: es) [] pos) (fN h as) := by
  obtain ⟨t, p, q⟩ := ha.ex
  refine ⟨_, pe_callTy hc hg hm hv p hn hdb he hpl, fun ρ σ G H Q R k => q ρ σ G H _ R ((QF.bind k).imp fun ds G1 H1 _ x1 k1 vs dv => ?_)⟩
  obtain ⟨a, ea, k2⟩ := QG.of x1.sub k1
  exact v G1 H1 ds vs a Q x1.sub dv ea k2
theorem bors1 {K : PySem.W.Frag} {G H : Hp} {d : D} {vs : List V} (h : Bors K G H [d] vs) : ∃ v, vs = [v] ∧ Bor K G H d v := by
  obtain ⟨v, r, rfl, h1, h2⟩ := h
  cases (show r = [] from h2)
  exact ⟨v, rfl, h1⟩
theorem bors2 {K : PySem.W.Frag} {G H : Hp} {d d' : D} {vs : List V} (h : Bors K G H [d, d'] vs) : ∃ v w, vs = [v, w] ∧ Bor K G H d v ∧ Bor K G H d' w := by
  obtain ⟨v, r, rfl, h1, h2⟩ := h
  obtain ⟨w, rfl, h3⟩ := bors1 h2
  exact ⟨v, w, rfl, h1, h3⟩
theorem vn_len : VN X (fun xs H Q => ∃ x n, xs = [x] ∧ LenV X.K x H n ∧ Q (.int n) H) oLen := by
  intro G H ds vs d' Q s b h q
  match ds, h with
  | [.lst xs], h =>
    cases h
    obtain ⟨v, rfl, bv⟩ := bors1 b
    obtain ⟨p, us, rfl, h1, h2⟩ := bv.lst s
    exact ⟨_, _, rfl, .inl ⟨us, .of h1, h2.1.len⟩, q G H (.refl s) _ (Dat.int_iff.mpr rfl)⟩
  | [.tup xs], h =>
    cases h
    obtain ⟨v, rfl, bv⟩ := bors1 b
    obtain ⟨p, us, rfl, _, h1, h2⟩ := bv.tup s
    exact ⟨_, _, rfl, .inr ⟨us, .of h1, h2.1.len⟩, q G H (.refl s) _ (Dat.int_iff.mpr rfl)⟩
  | [.tux xs], h =>
    cases h
    obtain ⟨v, rfl, bv⟩ := bors1 b
    obtain ⟨p, o, us, rfl, _, h1, _, h2⟩ := bv.tux s
    exact ⟨_, _, rfl, .inr ⟨us, .frz h1, h2.1.len⟩, q G H (.refl s) _ (Dat.int_iff.mpr rfl)⟩
  | [.scr ns], h =>
    cases h
    obtain ⟨v, rfl, bv⟩ := bors1 b
    obtain ⟨a, rfl, h1⟩ := Dat.scr_iff.mp (bv.dat fun _ => by simp)
    exact ⟨_, _, rfl, .inl ⟨_, s.seq h1, by rw [List.length_map]⟩, q G H (.refl s) _ (Dat.int_iff.mpr rfl)⟩
theorem vn_int1 : VN X (fun xs H Q => (∃ i, xs = [.int i] ∧ Q (.int i) H) ∨ ∃ k, xs = [.bl k] ∧ Q (.int (if k then 1 else 0)) H) oInt1 := by
  intro G H ds vs d' Q s b h q
  match ds, h with
  | [.int i], h =>
    cases h
    obtain ⟨v, rfl, bv⟩ := bors1 b
    rw [bv.int]
    exact .inl ⟨i, rfl, q G H (.refl s) _ (Dat.int_iff.mpr rfl)⟩
  | [.bl i], h =>
    cases h
    obtain ⟨v, rfl, bv⟩ := bors1 b
    rw [bv.bl]
    exact .inr ⟨i, rfl, q G H (.refl s) _ (Dat.int_iff.mpr rfl)⟩
theorem vn_abs : VN X (fun xs H Q => ∃ i, xs = [.int i] ∧ Q (.int (if i < 0 then -i else i)) H) oAbs := by
  intro G H ds vs d' Q s b h q
  match ds, h with
  | [.int i], h =>
    cases h
    obtain ⟨v, rfl, bv⟩ := bors1 b
    rw [bv.int]
    exact ⟨i, rfl, q G H (.refl s) _ (Dat.int_iff.mpr rfl)⟩
theorem vn_min2 : VN X (fun xs H Q => ∃ i j, xs = [.int i, .int j] ∧ Q (.int (if j < i then j else i)) H) oMin2 := by
  intro G H ds vs d' Q s b h q
  match ds, h with
  | [.int i, .int j], h =>
    cases h
    obtain ⟨v, w, rfl, bv, bw⟩ := bors2 b
    rw [bv.int, bw.int]
    exact ⟨i, j, rfl, q G H (.refl s) _ (Dat.int_iff.mpr rfl)⟩
theorem vn_max2 : VN X (fun xs H Q => ∃ i j, xs = [.int i, .int j] ∧ Q (.int (if j > i then j else i)) H) oMax2 := by
  intro G H ds vs d' Q s b h q
  match ds, h with
  | [.int i, .int j], h =>
    cases h
    obtain ⟨v, w, rfl, bv, bw⟩ := bors2 b
    rw [bv.int, bw.int]
    exact ⟨i, j, rfl, q G H (.refl s) _ (Dat.int_iff.mpr rfl)⟩
theorem vf_list : VF X (fun xs H Q => ∃ p ys, xs = [.ref p] ∧ (SqL X.K H p ys ∨ SqT X.K H p ys) ∧ ∀ l, H l = none → Q (.ref l) (upd H l (.lst ys))) oListOf := by
  intro G H ds vs d' Q s b h q
  match ds, h with
  | [.lst xs], h =>
    cases h
    obtain ⟨v, rfl, bv⟩ := bors1 b
    obtain ⟨p, us, rfl, h1, h2⟩ := bv.lst s
    exact ⟨p, us, rfl, .inl (.of h1), fun l nl => q G _ (.own s nl) l us nl (s.free nl) upd_same h2.1 h2.2⟩
  | [.tup xs], h =>
    cases h
    obtain ⟨v, rfl, bv⟩ := bors1 b
    obtain ⟨p, us, rfl, _, h1, h2⟩ := bv.tup s
    exact ⟨p, us, rfl, .inr (.of h1), fun l nl => q G _ (.own s nl) l us nl (s.free nl) upd_same h2.1 h2.2⟩
  | [.tux xs], h =>
    cases h
    obtain ⟨v, rfl, bv⟩ := bors1 b
    obtain ⟨p, o, us, rfl, _, h1, _, h2⟩ := bv.tux s
    exact ⟨p, us, rfl, .inr (.frz h1), fun l nl => q G _ (.own s nl) l us nl (s.free nl) upd_same h2.1 h2.2⟩
theorem vn_tuple : VN X (fun xs H Q => ∃ p ys, xs = [.ref p] ∧ ((SqL X.K H p ys ∧ ∀ l, H l = none → Q (.ref l) (upd H l (.tup ys))) ∨ (SqT X.K H p ys ∧ Q (.ref p) H))) oTupleOf := by
  intro G H ds vs d' Q s b h q
  match ds, h with
  | [.lst xs], h =>
    cases h
    obtain ⟨v, rfl, bv⟩ := bors1 b
    obtain ⟨p, us, rfl, h1, h2⟩ := bv.lst s
    exact ⟨p, us, rfl, .inl ⟨.of h1, fun l nl => q _ _ (.new s nl) _ (Dat.tup_iff.mpr ⟨l, us, rfl, upd_same, h2.1.mono (same_upd (s.free nl)), h2.2⟩)⟩⟩
  | [.tup xs], h =>
    cases h
    obtain ⟨v, rfl, bv⟩ := bors1 b
    obtain ⟨p, us, rfl, g1, h1, h2⟩ := bv.tup s
    exact ⟨p, us, rfl, .inr ⟨.of h1, q G H (.refl s) _ (Dat.tup_iff.mpr ⟨p, us, rfl, g1, h2⟩)⟩⟩
  | [.tux xs], h =>
    cases h
    obtain ⟨v, rfl, bv⟩ := bors1 b
    obtain ⟨p, o, us, rfl, g1, h1, z, h2⟩ := bv.tux s
    exact ⟨p, us, rfl, .inr ⟨.frz h1, q G H (.refl s) _ (Dat.tux_iff.mpr ⟨p, o, us, rfl, g1, z, h2⟩)⟩⟩
/-- tuple + tuple -/
theorem v2_catT : V2 X (rCatA X.K) oCatT := by
  intro G H d v e u d' Q s b1 b2 h q
  match d, e, h with
  | .tup xs, .tup ys, h =>
    have h' : (if xs.length + ys.length ≤ line then some (D.tup (xs ++ ys)) else none) = some d' := h
    by_cases hl : xs.length + ys.length ≤ line
    · rw [if_pos hl] at h'
      cases h'
      obtain ⟨p, vs, rfl, g1, h1, h2⟩ := b1.tup s
      obtain ⟨r, us, rfl, g3, h3, h4⟩ := b2.tup s
      have e1 := h2.1.len
      have e2 := h4.1.len
      have e3 := line_is
      refine ⟨p, r, vs, us, rfl, rfl, .of h1, .of h3, by omega, fun z => ?_, fun _ z => ?_, fun _ _ a na => ?_⟩
      · subst z
        have : xs = [] := List.length_eq_zero_iff.mp e1
        subst this
        exact q G H (.refl s) _ (Dat.tup_iff.mpr ⟨r, us, rfl, g3, h4.1, h4.2⟩)
      · subst z
        have : ys = [] := List.length_eq_zero_iff.mp e2
        subst this
        exact q G H (.refl s) _ (Dat.tup_iff.mpr ⟨p, vs, rfl, g1, by rw [List.append_nil]; exact h2.1, by rw [List.append_nil]; exact h2.2⟩)
      · exact q _ _ (.new s na) _ (Dat.tup_iff.mpr ⟨a, vs ++ us, rfl, upd_same, (h2.1.append h4.1).mono (same_upd (s.free na)), by rw [List.length_append]; exact hl⟩)
    · rw [if_neg hl] at h'; cases h'
/-- list + list -/
def fCat (a b : PE') : PF' := fun ρ => (a ρ).bind fun x => (b ρ).bind fun y => .of (oCatL [x, y])
theorem df_cat (ha : DB X W e1 f1) (hb : DB X W e2 f2) : DF X W (.BinOp e1 .Add e2 pos) (fCat f1 f2) := by
  obtain ⟨ta, pa, qa⟩ := ha.ex
  obtain ⟨tb, pb, qb⟩ := hb.ex
  refine ⟨_, pe_op op_cat pa pb, fun ρ σ G H Q R h => qa ρ σ G H _ R ((QF.bind h).imp fun d G1 H1 _ x1 q1 v b1 => ?_)⟩
  refine qb ρ σ G1 H1 _ (R.ext x1) ((QF.bind q1).imp fun d2 G2 H2 _ x2 q2 u b2 => ?_)
  obtain ⟨a, ea, q3⟩ := QG.of x2.sub q2
  match d, d2, ea with
  | .lst xs, .lst ys, ea =>
    have h' : (if xs.length + ys.length ≤ line then some (xs ++ ys) else none) = some a := ea
    by_cases hl : xs.length + ys.length ≤ line
    · rw [if_pos hl] at h'
      cases h'
      obtain ⟨p, vs, rfl, h1, h2⟩ := (b1.ext x2).lst x2.sub
      obtain ⟨r, us, rfl, h3, h4⟩ := b2.lst x2.sub
      have e1 := h2.1.len
      have e2 := h4.1.len
      have e3 := line_is
      exact ⟨p, r, vs, us, rfl, rfl, h1, h3, by omega, fun l nl => q3 G2 _ (.own x2.sub nl) l _ nl (x2.sub.free nl) upd_same (h2.1.append h4.1) (by rw [List.length_append]; exact hl)⟩
    · rw [if_neg hl] at h'; cases h'
/-! ### list(range(..)), tuple(range(..)) -/
theorem rng_dats {K : PySem.W.Frag} {G : Hp} (a b : Int) : Dats K G (rng a (b - a).toNat) (rgV a b) := by
  have e : rng a (b - a).toNat = (((List.range (b - a).toNat).map fun i : Nat => a + (i : Int))).map D.int := by unfold rng; rw [List.map_map]; rfl
  have e2 : rgV a b = (((List.range (b - a).toNat).map fun i : Nat => a + (i : Int))).map V.int := by unfold rgV; rw [List.map_map]; rfl
  rw [e, e2]
  exact .of_ints _
def pTupRg (as : List PE') : PE' := fun ρ => (fN oRange as ρ).bind fun xs => .ok (.tup xs)
theorem range1_run {te : TE} (qa : ∀ ρ σ G H Q, RS X.K ρ σ G H → QP X.K W σ G H Q (f ρ) → te σ H Q) {ρ : Rho} {σ : St} {G H : Hp} {R : Int → Int → Hp → Prop} {k : List D → OP D} {Q : VK} (I : RS X.K ρ σ G H)
    (h : QP X.K W σ G H Q ((fN oRange [f] ρ).bind k)) (hk : ∀ n G' H', Ext G H G' H' → RgOk 0 n → QP X.K W σ G' H' Q (k (rng 0 n.toNat)) → R 0 n H') : tRg1 te σ H R := by
  refine qa ρ σ G H _ I ?_
  have h' : QP X.K W σ G H Q ((((f ρ).bind fun x => .ok [x]).bind fun xs => .of (oRange xs)).bind k) := h
  cases ho : f ρ with
  | stuck => rw [ho] at h'; exact h'
  | exc C ns ds => rw [ho] at h'; exact h'
  | ok d =>
    rw [ho] at h'
    intro G1 H1 x1 v dv
    cases d with
    | int j =>
      have h2 : QP X.K W σ G H Q ((OP.of (if okR j && decide (j.toNat ≤ line) then some (rng 0 j.toNat) else none)).bind k) := h'
      by_cases c : (okR j && decide (j.toNat ≤ line)) = true
      · rw [if_pos c] at h2
        rw [Bool.and_eq_true, decide_eq_true_eq] at c
        refine ⟨j, Dat.int_iff.mp dv, hk j G1 H1 x1 ⟨by omega, by omega, (okR_iff c.1).1, (okR_iff c.1).2, ?_⟩ (QG.ext x1 h2)⟩
        have : line = 2 ^ 24 := rfl
        have h3 : (j - 0).toNat = j.toNat := by rw [Int.sub_zero]
        omega
      · rw [if_neg c] at h2; exact h2.elim
    | _ => exact h'.elim
theorem dp_tupRg1 {q : Pos} (hc : X.calm = true) (hm : X.mg "tuple" = none) (hm2 : X.mg "range" = none) (h : DP X W e f) (hg : Gl X "tuple" := by rfl) (hg2 : Gl X "range" := by rfl) (na : starEach [e] X.env = (false, eval e X.env) :: starEach [] X.env := by rfl)
    (nb : starEach [.Call (.Name "range" p) [e] [] q] X.env = (false, eval (.Call (.Name "range" p) [e] [] q) X.env) :: starEach [] X.env := by rfl) {p3 : Pos} : DP X W (.Call (.Name "tuple" p3) [.Call (.Name "range" p) [e] [] q] [] pos) (pTupRg [f]) := by
  obtain ⟨t, p, qa⟩ := h.ex
  refine ⟨_, pe_tupRg hc hg hm (prg_1 hg2 hm2 p na) nb, fun ρ σ G H Q R k => range1_run qa R k fun n G' H' x ok k2 => ⟨ok, fun a na => ?_⟩⟩
  refine k2 _ _ (.new x.sub na) _ (Dat.tup_iff.mpr ⟨a, _, rfl, upd_same, ?_, ?_⟩)
  · have := rng_dats (K := X.K) (G := upd G' a (.tup (rgV 0 n))) 0 n
    rwa [Int.sub_zero] at this
  · rw [rng_len]
    have := ok.2.2.2.2
    have h3 : (n - 0).toNat = n.toNat := by rw [Int.sub_zero]
    have : line = 2 ^ 24 := rfl
    omega
theorem df_listRg1 {q : Pos} (hc : X.calm = true) (hm : X.mg "list" = none) (hm2 : X.mg "range" = none) (h : DP X W e f) (hg : Gl X "list" := by rfl) (hg2 : Gl X "range" := by rfl) (na : starEach [e] X.env = (false, eval e X.env) :: starEach [] X.env := by rfl)
    (nb : starEach [.Call (.Name "range" p) [e] [] q] X.env = (false, eval (.Call (.Name "range" p) [e] [] q) X.env) :: starEach [] X.env := by rfl) {p3 : Pos} : DF X W (.Call (.Name "list" p3) [.Call (.Name "range" p) [e] [] q] [] pos) (fN oRange [f]) := by
  obtain ⟨t, p, qa⟩ := h.ex
  refine ⟨_, pe_listRg hc hg hm (prg_1 hg2 hm2 p na) nb, fun ρ σ G H Q R k => qa ρ σ G H _ R ?_⟩
  have h' : QF X.K W σ G H Q (((f ρ).bind fun x => .ok [x]).bind fun xs => .of (oRange xs)) := k
  cases ho : f ρ with
  | stuck => rw [ho] at h'; exact h'
  | exc C ns ds => rw [ho] at h'; exact h'
  | ok d =>
    rw [ho] at h'
    intro G1 H1 x1 v dv
    cases d with
    | int j =>
      have h2 : QF X.K W σ G H Q (OP.of (if okR j && decide (j.toNat ≤ line) then some (rng 0 j.toNat) else none)) := h'
      by_cases c : (okR j && decide (j.toNat ≤ line)) = true
      · rw [if_pos c] at h2
        rw [Bool.and_eq_true, decide_eq_true_eq] at c
        have hl : line = 2 ^ 24 := rfl
        have h3 : (j - 0).toNat = j.toNat := by rw [Int.sub_zero]
        refine ⟨j, Dat.int_iff.mp dv, ⟨by omega, by omega, (okR_iff c.1).1, (okR_iff c.1).2, by omega⟩, fun a na => ?_⟩
        have hd := rng_dats (K := X.K) (G := G1) 0 j
        rw [Int.sub_zero] at hd
        exact h2 G1 _ (x1.trans (.own x1.sub na)) a _ (x1.h.free na) (x1.sub.free na) upd_same hd (by rw [rng_len]; exact c.2)
      · rw [if_neg c] at h2; exact h2.elim
    | _ => exact h'.elim
theorem dp_tupRg2 {q : Pos} (hc : X.calm = true) (hm : X.mg "tuple" = none) (hm2 : X.mg "range" = none) (h : DP X W e1 f1) (h2 : DP X W e2 f2) (hg : Gl X "tuple" := by rfl) (hg2 : Gl X "range" := by rfl) (na : starEach [e1, e2] X.env = (false, eval e1 X.env) :: starEach [e2] X.env := by rfl)
    (na2 : starEach [e2] X.env = (false, eval e2 X.env) :: starEach [] X.env := by rfl)
    (nb : starEach [.Call (.Name "range" p) [e1, e2] [] q] X.env = (false, eval (.Call (.Name "range" p) [e1, e2] [] q) X.env) :: starEach [] X.env := by rfl) {p3 : Pos} (nc : (backTo q (starEach [e2] X.env)).any (·.1) = false := by rfl) : DP X W (.Call (.Name "tuple" p3) [.Call (.Name "range" p) [e1, e2] [] q] [] pos) (pTupRg [f1, f2]) := by
  obtain ⟨t, p, qa⟩ := h.ex
  obtain ⟨t', p', qb⟩ := h2.ex
  refine ⟨_, pe_tupRg hc hg hm (prg_2 hg2 hm2 p p' na na2 nc) nb, fun ρ σ G H Q R k => ?_⟩
  have h' : QP X.K W σ G H Q ((((f1 ρ).bind fun x => ((f2 ρ).bind fun y => .ok [y]).bind fun xs => .ok (x :: xs)).bind fun xs => .of (oRange xs)).bind fun xs => .ok (.tup xs)) := k
  show t σ H fun x H1 => t' σ H1 fun y H2 => _
  refine qa ρ σ G H _ R ?_
  cases ho : f1 ρ with
  | stuck => rw [ho] at h'; exact h'
  | exc C ns ds => rw [ho] at h'; exact h'
  | ok d =>
    rw [ho] at h'
    intro G1 H1 x1 v dv
    refine qb ρ σ G1 H1 _ (R.ext x1) ?_
    cases ho2 : f2 ρ with
    | stuck => rw [ho2] at h'; exact h'
    | exc C ns ds => rw [ho2] at h'; exact Xc.ext x1 (show Xc X.K W σ G H C ns ds from h')
    | ok d2 =>
      rw [ho2] at h'
      intro G2 H2 x2 u du
      cases d with
      | int i =>
        cases d2 with
        | int j =>
          have h2 : QP X.K W σ G H Q ((OP.of (if okR i && okR j && decide ((j - i).toNat ≤ line) then some (rng i (j - i).toNat) else none)).bind fun xs => .ok (.tup xs)) := h'
          by_cases c : (okR i && okR j && decide ((j - i).toNat ≤ line)) = true
          · rw [if_pos c] at h2
            rw [Bool.and_eq_true, Bool.and_eq_true, decide_eq_true_eq] at c
            have hl : line = 2 ^ 24 := rfl
            refine ⟨i, j, Dat.int_iff.mp dv, Dat.int_iff.mp du, ⟨(okR_iff c.1.1).1, (okR_iff c.1.1).2, (okR_iff c.1.2).1, (okR_iff c.1.2).2, by omega⟩, fun a na => ?_⟩
            exact h2 _ _ ((x1.trans x2).trans (.new x2.sub na)) _ (Dat.tup_iff.mpr ⟨a, _, rfl, upd_same, rng_dats i j, by rw [rng_len]; exact c.2⟩)
          · rw [if_neg c] at h2; exact h2.elim
        | _ => exact h'.elim
      | _ => cases d2 <;> exact h'.elim
end
end Pu
end
section
set_option maxHeartbeats 1000000
/-! Pu, the layer: sorted, len(set), index, min, sum, isinstance. -/
namespace Pu
open PySem PySem.Spec L2
open PyProof.Rows hiding St
theorem Dat.tup_ints_inj {K : PySem.W.Frag} {G : Hp} {t u : List Int} {v : V} (h : Dat K G (dTI t) v) (k : Dat K G (dTI u) v) : t = u := by
  obtain ⟨a, vs, rfl, h1, h2, _⟩ := Dat.tup_iff.mp h
  obtain ⟨b, ws, e, k1, k2, _⟩ := Dat.tup_iff.mp k
  cases e
  rw [h1] at k1
  cases k1
  have e1 := h2.ints
  have e2 := k2.ints
  rw [e1] at e2
  clear e1 h2 k2 h1 h k
  have inj : ∀ t u : List Int, t.map V.int = u.map V.int → t = u := by
    intro t
    induction t with
    | nil =>
      intro u e
      cases u with
      | nil => rfl
      | cons x u => cases e
    | cons x t ih =>
      intro u e
      cases u with
      | nil => cases e
      | cons y u =>
        injection e with e3 e4
        injection e3 with e3
        rw [e3, ih u e4]
  exact inj t u e2
open Classical in
/-- the tuple that a value is -/
noncomputable def kOf (K : PySem.W.Frag) (G : Hp) (v : V) : List Int := if h : ∃ t, Dat K G (dTI t) v then h.choose else []
theorem kOf_is {K : PySem.W.Frag} {G : Hp} {t : List Int} {v : V} (h : Dat K G (dTI t) v) : kOf K G v = t := by
  have q : ∃ t, Dat K G (dTI t) v := ⟨t, h⟩
  unfold kOf
  rw [dif_pos q]
  exact Dat.tup_ints_inj q.choose_spec h
theorem kOf_all {K : PySem.W.Frag} {G : Hp} : ∀ {ts : List (List Int)} {vs : List V}, Dats K G (ts.map dTI) vs → vs.map (kOf K G) = ts ∧ ∀ v ∈ vs, Dat K G (dTI (kOf K G v)) v ∧ kOf K G v ∈ ts
  | [], vs, h => by rw [h.nil_inv]; exact ⟨rfl, fun v hv => by cases hv⟩
  | t :: ts, vs, h => by
    obtain ⟨v, r, rfl, h1, h2⟩ := h.cons_inv
    obtain ⟨a, b⟩ := kOf_all h2
    refine ⟨by rw [List.map_cons, a, kOf_is h1], fun w hw => ?_⟩
    rcases List.mem_cons.mp hw with rfl | hw
    · rw [kOf_is h1]; exact ⟨h1, List.mem_cons_self⟩
    · exact ⟨(b w hw).1, List.mem_cons_of_mem _ (b w hw).2⟩
theorem dats_of_k {K : PySem.W.Frag} {G : Hp} : ∀ {vs : List V}, (∀ v ∈ vs, Dat K G (dTI (kOf K G v)) v) → Dats K G ((vs.map (kOf K G)).map dTI) vs
  | [], _ => .nil
  | v :: vs, h => .cons (h v List.mem_cons_self) (dats_of_k fun w hw => h w (List.mem_cons_of_mem _ hw))
/-- sorted(x), x a list or a tuple, of ints or of tuples of ints that are not empty -/
def rSort (K : PySem.W.Frag) : List V → Hp → VK → Prop := fun xs H Q => ∃ p vs, xs = [.ref p] ∧ (SqL K H p vs ∨ SqT K H p vs) ∧
  ((∃ ns : List Int, vs = ns.map V.int ∧ ∀ a, H a = none → Q (.ref a) (upd H a (.lst ((srt ltI ns).map V.int)))) ∨
   (∃ k : V → List Int, (∀ v ∈ vs, k v ≠ [] ∧ ∃ a, v = .ref a ∧ SqT K H a ((k v).map V.int)) ∧ ∀ a vs', H a = none → vs'.Perm vs → (vs'.map k).Pairwise (fun a b => lexI b a = false) → Q (.ref a) (upd H a (.lst vs'))))
section
variable {X : Cx}
theorem vals_perm : ∀ {vs : List V} {us out : List Value}, Vals vs us → out.Perm us → ∃ vs', vs'.Perm vs ∧ Vals vs' out := by
  intro vs us out r p
  induction p generalizing vs with
  | nil => cases r; exact ⟨[], .refl _, .nil⟩
  | cons x p ih =>
    cases r with
    | cons r0 r =>
      obtain ⟨vs', a, b⟩ := ih r
      exact ⟨_, a.cons _, .cons r0 b⟩
  | swap x y l =>
    cases r with
    | cons r0 r =>
      cases r with
      | cons r1 r => exact ⟨_, .swap _ _ _, .cons r1 (.cons r0 r)⟩
  | trans p q ih1 ih2 =>
    obtain ⟨v1, a1, b1⟩ := ih2 r
    obtain ⟨v2, a2, b2⟩ := ih1 b1
    exact ⟨v2, a2.trans a1, b2⟩
theorem bk_vals : ∀ {vs : List V} {us : List Value}, Vals vs us → (∀ v ∈ vs, ∃ a, v = V.ref a) → vs = us.map bkV := fun r h => (bkV_refs r h).1
theorem cr_sort : CallR X (.builtin "sorted") (rSort X.K) := by
  intro pins s σ H xs us Q I r h
  obtain ⟨p, vs, rfl, hs, h⟩ := h
  rw [Vals.ref1 r]
  have src : ∃ its : List Value, Vals vs its ∧ vs.length ≤ sizeLine ∧ Src X.prog X.w X.A.in1 s (.ref p) its ∧ ∀ o, s.heap.get? p = some o → True := by
    rcases hs with hs | hs
    · obtain ⟨its, rv, hl, hz⟩ := I.list hs
      exact ⟨its, rv, hz, src_list hl.isList (by rw [← rv.length]; exact hz), fun _ _ => trivial⟩
    · obtain ⟨its, rv, hl, hz⟩ := I.tuple hs
      exact ⟨its, rv, hz, src_tuple hl (by rw [← rv.length]; exact hz), fun _ _ => trivial⟩
  obtain ⟨its, rv, hz, S, _⟩ := src
  have hz' : its.length ≤ sizeLine := by rw [← rv.length]; exact hz
  rcases h with ⟨ns, rfl, q⟩ | ⟨k, hk, q⟩
  · have hi := rv.ints
    refine sorted_src SrtO.swo_int S hz' (fun h2 s1 a ha keep => SrtO.ints_sortable hi h2) fun h1 h' tk d out hs hb k1 k2 hd ⟨n, ho⟩ => ?_
    obtain ⟨c1, c2, c3⟩ := SrtO.ints_out hi hs hb
    have I1 : Inv X pins σ H { s with heap := h1, toks := s.toks } := I.kept k1
    have hn : H d = none := I1.hok.fresh hd
    have e : out.map SrtO.iv = srt ltI ns := srt_uniq ltI_tot (c3.imp fun {x y} h => decide_eq_false (by omega)) c2
    have hlen : ((srt ltI ns).map V.int).length ≤ sizeLine := by
      rw [List.length_map, (srt_perm ns).length_eq]
      rwa [List.length_map] at hz
    rw [e] at c1
    exact ⟨.ref d, upd H d (.lst ((srt ltI ns).map V.int)), I1.laid (t' := tk) (fun b o q => k2 _ _ q) hd ⟨hlen, out, n, vals_of_ints c1, ho⟩, rfl, q d hn⟩
  · have refs : ∀ v ∈ vs, ∃ a, v = V.ref a := fun v hv => let ⟨_, a, e, _⟩ := hk v hv; ⟨a, e⟩
    have ebk := bk_vals rv refs
    have tups : ∀ u ∈ its, TS.TupInts s.heap u (k (bkV u)) ∧ k (bkV u) ≠ [] := fun u hu => by
      have hm : bkV u ∈ vs := by rw [ebk]; exact List.mem_map_of_mem hu
      obtain ⟨ne, a, e, hq⟩ := hk _ hm
      obtain ⟨its', rv', pt, _⟩ := I.tuple hq
      exact ⟨⟨a, its'.toArray, bkV_ref e, pt, by simpa using rv'.ints⟩, ne⟩
    refine sorted_src (ltv := fun v u => lexI (k (bkV v)) (k (bkV u))) (swoK fun u => k (bkV u)) S hz' (fun h2 s1 a ha keep => ?_) fun h1 h' tk d out hs hb k1 k2 hd ⟨n, ho⟩ => ?_
    · refine tups_sortableO (k := fun u => k (bkV u)) (by omega) (fun v hv => ⟨(tups v hv).1.keeps fun b o q _ => (keep b o q).2, (tups v hv).2⟩) fun o ho => ?_
      rw [ha] at ho
      cases ho
      show Value.type "list" ≠ Value.type "tuple"
      simp
    · have I1 : Inv X pins σ H { s with heap := h1, toks := s.toks } := I.kept k1
      have hn : H d = none := I1.hok.fresh hd
      obtain ⟨vs', pv, ro⟩ := vals_perm rv hb.perm
      have e2 : vs' = out.map bkV := bk_vals ro fun v hv => refs v (pv.mem_iff.mp hv)
      have hlen : vs'.length ≤ sizeLine := by rw [pv.length_eq]; exact hz
      refine ⟨.ref d, upd H d (.lst vs'), I1.laid (t' := tk) (fun b o q => k2 _ _ q) hd ⟨hlen, out, n, ro, ho⟩, rfl, q d vs' hn pv ?_⟩
      rw [e2, List.map_map]
      exact List.pairwise_map.mpr hs
theorem vf_sorted : VF X (rSort X.K) oSorted := by
  have main : ∀ G H xs p vs d' (Q : VK), Same G H → Dats X.K G xs vs → xs.length ≤ line → sortD xs = some d' → (SqL X.K H p vs ∨ SqT X.K H p vs) → (∀ G' H', Ext G H G' H' → ∀ p vs', H p = none → G' p = none → H' p = some (.lst vs') → Dats X.K G' d' vs' → d'.length ≤ line → Q (.ref p) H') → rSort X.K [.ref p] H Q := by
    intro G H xs p vs d' Q s hd hl h hq q
    refine ⟨p, vs, rfl, hq, ?_⟩
    unfold sortD at h
    cases hi : D.ints xs with
    | some ns =>
      rw [hi] at h
      cases h
      have e := ints_some hi
      subst e
      refine .inl ⟨ns, hd.ints, fun a na => q G _ (.own s na) a _ na (s.free na) upd_same (Dats.of_ints _) ?_⟩
      rw [List.length_map, (srt_perm ns).length_eq]
      rwa [List.length_map] at hl
    | none =>
      rw [hi] at h
      obtain ⟨ts, ht, rfl⟩ := Option.map_eq_some_iff.mp (show (D.tupsI xs).map _ = some d' from h)
      obtain ⟨e, ne⟩ := tups_some ht
      subst e
      obtain ⟨k1, k2⟩ := kOf_all hd
      refine .inr ⟨kOf X.K G, fun v hv => ⟨ne _ (k2 v hv).2, ?_⟩, fun a vs' na pv ps => ?_⟩
      · obtain ⟨b, us, e, g, du, _⟩ := Dat.tup_iff.mp (k2 v hv).1
        exact ⟨b, e, by rw [← du.ints]; exact .of (s _ _ g)⟩
      · have e : vs'.map (kOf X.K G) = srt lexI ts := srt_uniq lexI_tot ps (by rw [← k1]; exact pv.map _)
        refine q G _ (.own s na) a _ na (s.free na) upd_same ?_ ?_
        · rw [← e]
          exact dats_of_k fun v hv => (k2 v (pv.mem_iff.mp hv)).1
        · rw [List.length_map, (srt_perm ts).length_eq]
          rwa [List.length_map] at hl
  intro G H ds vs d' Q s b h q
  match ds, h with
  | [.lst xs], h =>
    obtain ⟨v, rfl, bv⟩ := bors1 b
    obtain ⟨p, us, rfl, h1, h2⟩ := bv.lst s
    exact main G H xs p us d' Q s h2.1 h2.2 h (.inl (.of h1)) q
  | [.tup xs], h =>
    obtain ⟨v, rfl, bv⟩ := bors1 b
    obtain ⟨p, us, rfl, _, h1, h2⟩ := bv.tup s
    exact main G H xs p us d' Q s h2.1 h2.2 h (.inr (.of h1)) q
  | [.tux xs], h =>
    obtain ⟨v, rfl, bv⟩ := bors1 b
    obtain ⟨p, o, us, rfl, _, h1, _, h2⟩ := bv.tux s
    exact main G H xs p us d' Q s h2.1 h2.2 h (.inr (.frz h1)) q
end
end Pu
end
section
/-! Pu: set(x) of a tuple of ints. -/
namespace Pu
open PySem PySem.Spec PyProof.Rows L2 SS
section
variable {prog : Program} {w : World} {A : Around} {E : Value → Shared → Prop} {s : Shared}
set_option maxHeartbeats 3200000 in
theorem set_tuple_ints {l : Addr} {items : Array Value} {ns : List Int} {Q : Value → Shared → Prop}
    (hh : A.handled = none) (hl : s.heap.IsTuple l items) (hi : PyProof.Rows.IntsAre items.toList ns) (hb : items.size + 1 < scanBound)
    (h : ∀ (h' : Heap) (tk : Nat), h'.SetOf (intKind prog w) s.heap.objs.size (fun k' => (PyProof.Rows.firstMet (fun i => ns.getD i 0) items.size).any (· == k')) (PyProof.Rows.firstMet (fun i => ns.getD i 0) items.size).length →
      (∀ b o, b < s.heap.objs.size → s.heap.get? b = some o → h'.get? b = some o) → Q (.ref s.heap.objs.size) { s with heap := h', toks := tk }) :
    wpAny (model prog w) A (call (.type "set") [.ref l]) Q E s := by
  obtain ⟨c, tl, hmro⟩ := PySem.F.called_set.mro
  have hmade := PySem.F.called_set.made
  have hsub := PySem.F.called_set.sub
  refine wpAny_call (codeAny_of_tree ?_)
  show wpAny _ _ (callAny (.type "set") _) _ _ _
  refine wpAny_pure ⟨Code.quiet_builtin _ (by decide +kernel), codeAny_builtin PySem.F.entry_type_call ?_⟩
  rw [Around.under_plain (weight_type_call_type "set" [.ref l] []) rfl]
  have h1 := PySem.F.called_set.notType
  have h2 := PySem.F.called_set.canCreate
  have hct := PySem.F.typeCall_set_1 (.ref l)
  repeat (any_goals (first | assumption | wp_step))

  refine codeAny_mono (code_set_new_1 (.ref l) (E := E) (Q₁ := fun obj s₁ => ∃ led : Bool, obj = .ref s.heap.objs.size ∧ s₁ = { s with heap := s.heap.push { cls := .type "set", dict := none, data := .set #[] 0 (.fresh 0 0 led) } }) fun led => ⟨led, rfl, rfl⟩) fun r s₁ hr => ?_
  cases r with
  | error e => exact hr
  | ok fl =>
    cases fl with
    | ret obj =>
      obtain ⟨led, rfl, rfl⟩ := hr
      have hS : (s.heap.push { cls := .type "set", dict := none, data := .set #[] 0 (.fresh 0 0 led) }).get? s.heap.objs.size = some { cls := .type "set", dict := none, data := .set #[] 0 (.fresh 0 0 led) } := Heap.get?_push_size _ rfl
      have hT : Shared.TypeIs { s with heap := s.heap.push { cls := .type "set", dict := none, data := .set #[] 0 (.fresh 0 0 led) } } (.ref s.heap.objs.size) "set" := ⟨_, hS, rfl⟩
      have hli := PySem.F.called_set.init.lookup
      have hbi := PySem.F.called_set.init.bind (.ref s.heap.objs.size)
      repeat (any_goals (first | assumption | wp_step))

      refine codeAny_mono (codeAny_call_builtin (R := wants (fun r s₂ => r = .none ∧ ∃ h' tk, s₂ = { s with heap := h', toks := tk } ∧
          h'.SetOf (intKind prog w) s.heap.objs.size (fun k' => (PyProof.Rows.firstMet (fun i => ns.getD i 0) items.size).any (· == k')) (PyProof.Rows.firstMet (fun i => ns.getD i 0) items.size).length ∧
          (∀ b o, b < s.heap.objs.size → s.heap.get? b = some o → h'.get? b = some o)) E) PySem.F.called_set.init.plain PySem.F.entry_set_init (check_set_init_1 hT ?_)) fun r₂ s₂ hr₂ => ?_
      · obtain ⟨ol, hol, hcl, nl, hdl⟩ := hl
        obtain ⟨ocls, odict, odata, oslots⟩ := ol
        simp only at hcl hdl
        subst hcl; subst hdl
        have hol' : (s.heap.push { cls := .type "set", dict := none, data := .set #[] 0 (.fresh 0 0 led) }).get? l = some { cls := .type "tuple", dict := odict, data := .seq items nl, slots := oslots } := Heap.get?_push_of_some _ hol
        have hsls := PySem.F.sub_tuple_set
        have hslf := PySem.F.sub_tuple_frozenset
        have hne : (Value.type "tuple" == Value.type "dict") = false := by decide
        have hl1 : (s.heap.push { cls := .type "set", dict := none, data := .set #[] 0 (.fresh 0 0 led) }).IsTuple l items := ⟨_, hol', rfl, nl, rfl⟩
        unfold Builtin.«set.__init__» noKeywords Builtin.Frozenset.updateFrom
        generalize hPI : pyIter = PI
        wp_walk
        subst hPI

        refine wpAny_pyIter_tuple hl1 ?_
        refine wpAny_bind (wpAny_runValue ?_)
        have hlS : l < s.heap.objs.size := Heap.lt_size hol
        have hh3 : A.in1.in1.in1.handled = none := by simp [hh]
        have hneI : l ≠ (s.heap.push { cls := .type "set", dict := none, data := .set #[] 0 (.fresh 0 0 led) }).objs.size := by
          rw [Heap.size_push]; exact Nat.ne_of_lt (Nat.lt_succ_of_lt hlS)
        have hSf : s.heap.objs.size ∉ [(s.heap.push { cls := .type "set", dict := none, data := .set #[] 0 (.fresh 0 0 led) }).objs.size, l] := by
          rw [Heap.size_push]; simp only [List.mem_cons, List.mem_singleton, List.not_mem_nil, or_false, not_or]
          exact ⟨Nat.ne_of_lt (Nat.lt_succ_self _), Nat.ne_of_gt hlS⟩
        have hval : ∀ (i : Nat) (v : Value), items[i]? = some v → ∃ t, v = .int ((fun i => ns.getD i 0) i) t := fun i v hv =>
          PyProof.Rows.IntsAre.int_at hi i v (by rw [Array.getElem?_toList]; exact hv)
        refine PyProof.Rows.codeAny_set_update_loopS ((Walks.tuple hh3 _ l hneI items).toS) s.heap.objs.size
          hSf (fun i => ns.getD i 0) hval hb (items.size - 0) 0 _ (by omega) (Nat.zero_le _)
          ⟨⟨_, Heap.get?_push_size _ rfl, rfl, rfl⟩, (hl1.push _)⟩ ?hS0 ?hR
        case hS0 =>
          have hget : ((s.heap.push { cls := .type "set", dict := none, data := .set #[] 0 (.fresh 0 0 led) }).push { cls := .type "tuple_iterator", data := .fields #[.ref l, .int 0 0] }).get? s.heap.objs.size
              = some { cls := .type "set", dict := none, data := .set #[] 0 (.fresh 0 0 led) } := Heap.get?_push_of_some _ hS
          exact PyProof.Rows.SetOf_congr ((PyProof.Rows.setObjOf_fresh (knd := intKind prog w) led).setOf hget (by unfold scanBound; omega)) (fun _ => rfl) rfl
        case hR =>
          intro s' hm hS'
          obtain ⟨h', g', d', tk', os'⟩ := s'
          have eg : g' = s.gens := hm.gens
          have ed : d' = s.drawn := hm.drawn
          have eo : os' = s.os := hm.os
          subst eg; subst ed; subst eo
          show wpAny _ _ _ _ _ _
          refine wpAny_pure ?_
          show wpAny _ _ (ret Value.none) _ _ _
          refine wpAny_pure ⟨rfl, h', tk', rfl, hS', fun b o hb e => ?_⟩
          have hb1 : b ≠ s.heap.objs.size := Nat.ne_of_lt hb
          have hb2 : b ≠ (s.heap.push { cls := .type "set", dict := none, data := .set #[] 0 (.fresh 0 0 led) }).objs.size := by
            rw [Heap.size_push]; exact Nat.ne_of_lt (Nat.lt_succ_of_lt hb)
          exact hm.heap b o (by simp only [List.mem_cons, List.mem_singleton, List.not_mem_nil, or_false, not_or]; exact ⟨hb1, hb2⟩) (Heap.get?_push_of_some _ (Heap.get?_push_of_some _ e))

      · cases r₂ with
        | error e => exact hr₂
        | ok fl₂ =>
          cases fl₂ with
          | ret r =>
            obtain ⟨rfl, h', tk, rfl, hS', hk'⟩ := hr₂
            repeat (any_goals (first | assumption | wp_step))
            exact h _ _ hS' hk'
          | _ => exact hr₂.elim
    | _ => exact hr.elim
end
end Pu
end
section
/-! Pu: enumerate(x) of a list, of a tuple. -/
namespace Pu
open PySem PySem.Spec
open Sem (wp)
open PyProof.Rows hiding St
open L2
set_option maxHeartbeats 1000000 in
theorem meets_enum_new {v : Value} {o : Obj} {Hh : Heap → Prop} (B : Begins v o Hh) :
    Meets (Builtin.«enumerate.__new__» ⟨[.type "enumerate", v], []⟩) (fun _ R s => Hh s.heap ∧
      R (.ok (.ret (.ref (s.heap.push o).objs.size))) { s with heap := (s.heap.push o).push { cls := .type "enumerate", data := .fields #[.none, .bool false, .ref s.heap.objs.size, rawInt 0, .none, .none] } }) :=
  .of_wp fun prog w A R s h => by
    obtain ⟨hp, g, d, tk, os⟩ := s; obtain ⟨h1, h⟩ := h
    have hsub := sub_enumerate
    have q1 : ∀ {A' : Around} {E : Value → Shared → Prop} {Q : Value → Shared → Prop}, Q (.ref hp.objs.size) ⟨hp.push o, g, d, tk, os⟩ → wpAny (model prog w) A' (pyIter v) Q E ⟨hp, g, d, tk, os⟩ :=
      fun q => B.iter prog w _ _ ⟨hp, g, d, tk, os⟩ _ h1 q
    wp_walk using q1
    refine wpAny_stack_any fun st => wpAny_pure ?_
    split
    · rename_i c _ _ _ _ _
      cases (c == Value.type "enumerate")
      · wp_walk using q1
        exact ⟨_, rfl, h⟩
      · wp_walk using q1
        exact ⟨_, rfl, h⟩
    · wp_walk using q1
      exact ⟨_, rfl, h⟩
section
variable {prog : Program} {w : World} {A : Around} {E : Value → Shared → Prop} {s : Shared}
theorem enum_at {v : Value} {o : Obj} {Hh : Heap → Prop} {Q : Value → Shared → Prop} (B : Begins v o Hh) (h1 : Hh s.heap)
    (h : ∀ h', IsEnum h' (s.heap.objs.size + 1) s.heap.objs.size 0 .none → h'.get? s.heap.objs.size = some o → h'.objs.size = s.heap.objs.size + 2 →
      (∀ b o, s.heap.get? b = some o → h'.get? b = some o) → Q (.ref (s.heap.objs.size + 1)) { s with heap := h' }) :
    wpAny (model prog w) A (call (.type "enumerate") [v]) Q E s := by
  refine callType_new F.called_enumerate (by decide) (F.typeCall_enumerate_1 _) (F.newCall_enumerate_1 _) (fun obj => F.args_object_init_2 obj _) F.entry_enumerate_new
    (meets_enum_new B) ⟨h1, ?_⟩
  have hz : (s.heap.push o).objs.size = s.heap.objs.size + 1 := Heap.size_push ..
  show _ ∧ _
  rw [hz]
  have he : IsEnum ((s.heap.push o).push { cls := .type "enumerate", data := .fields #[.none, .bool false, .ref s.heap.objs.size, rawInt 0, .none, .none] }) (s.heap.objs.size + 1) s.heap.objs.size 0 .none := by
    have := Heap.get?_push_size (s.heap.push o) (o := { cls := .type "enumerate", data := .fields #[.none, .bool false, .ref s.heap.objs.size, rawInt 0, .none, .none] }) rfl
    rw [hz] at this; exact this
  refine ⟨⟨_, he, rfl⟩, h _ he (Heap.get?_push_of_some _ (Heap.get?_push_size _ B.free)) (by rw [Heap.size_push, hz]) fun b o x => Heap.get?_push_of_some _ (Heap.get?_push_of_some _ x)⟩
end
/-- the tuple at a, each item in a new pair -/
def IteT (K : PySem.W.Frag) (a : Addr) : It :=
  ⟨fun i H => ∃ (xs : List V) (x : V), SqT K H a xs ∧ xs[i]? = some x, fun i H v H' => ∃ T x, v = .ref T ∧ H T = none ∧ H' = upd H T (.tup [.int (i : Nat), x]) ∧ ∀ xs, SqT K H a xs → xs[i]? = some x, fun i H => ∃ xs : List V, SqT K H a xs ∧ xs.length ≤ i⟩
theorem turn_enumT {P : Program} {w : World} {K : PySem.W.Frag} {elts : List Expr} {kk : Nat} {tpos : Pos} (a e it : Addr) :
    Turn P w K (.Tuple elts kk tpos) (IteT K a) [e, it] e (fun i h => (∃ old, IsEnum h e it ((i : Nat) : Int) old) ∧ h.IsTupleIter it a i ∧ e ≠ it) where
  mem := by simp
  obj := fun i h st b hb => by
    obtain ⟨⟨old, he⟩, ⟨o, ho, hc, hd⟩, _⟩ := st
    have e' : b = e ∨ b = it := by simpa using hb
    rcases e' with z | z
    · rw [z]; exact ⟨_, he, fun v q => nomatch q⟩
    · rw [z]; exact ⟨o, ho, fun v q => by rw [hd] at q; cases q⟩
  keep := fun i h h' st k => let ⟨⟨old, he⟩, hi, hne⟩ := st; ⟨⟨old, k e (by simp) _ he⟩, hi.at fun o q => k it (by simp) o q, hne⟩
  item := by
    intro X hP hw hK hc i pins s σ H E I hf st hg
    subst hP hw hK
    obtain ⟨⟨old, he⟩, hit, hne⟩ := st
    obtain ⟨xs, x, hq, hx⟩ := hg
    obtain ⟨its, rv, p, hz⟩ := I.tuple hq
    obtain ⟨u, hu, ru⟩ := rv.get hx
    have hel : e < s.heap.objs.size := Heap.lt_size he
    have hil : it < s.heap.objs.size := by obtain ⟨_, q, _⟩ := hit; exact Heap.lt_size q
    have pt : s.heap.IsTuple a its.toArray := p
    have hai : a ≠ it := fun z => by
      obtain ⟨o, ho, hc1, _⟩ := pt
      obtain ⟨o', ho', hc2, _⟩ := hit
      rw [z, ho'] at ho
      cases ho
      rw [hc1] at hc2
      exact absurd hc2 (by decide)
    have hae : e ≠ a := fun z => by
      obtain ⟨o, ho, hc1, _⟩ := pt
      rw [← z] at ho
      have he2 : s.heap.get? e = _ := he
      rw [ho] at he2
      cases he2
      exact absurd (show Value.type "enumerate" = Value.type "tuple" from hc1) (by decide)
    have D := Draws.tuple (prog := X.prog) (w := X.w) (A := X.A.in1) (by simpa using I.ok.hd hc) it a hai its.toArray
    have hil2 : i < its.toArray.size := by
      have := (List.getElem?_eq_some_iff.mp hu).1
      simpa using this
    refine wpAny_pyNext_enum_itemD D he ⟨hit, pt⟩ hil2 hne (by simp only [List.mem_cons, List.not_mem_nil, or_false, not_or]; exact ⟨hne, hae⟩) fun x' h' tk hPx ho hst' hT hsz hk => ?_
    have ex : x' = u := by
      have h1 : its[i]? = some x' := by simpa using hPx
      rw [hu] at h1; cases h1; rfl
    subst ex
    refine ⟨_, rfl, wpAny_letOwnedTupleGo_enum (s := { s with heap := h', toks := tk + 1 }) ho fun h'' he' sb => ?_⟩
    have hT2 : h''.get? s.heap.objs.size = some { cls := .type "tuple", data := .seq #[.int i tk, x'] } := (sb.2 _ (Nat.ne_of_gt hel)).trans hT
    have new : ObjOk X.prog X.w (upd H s.heap.objs.size (.tup [.int (i : Nat), x])) h'' s.heap.objs.size (.tup [.int (i : Nat), x]) :=
      ⟨by show 2 ≤ sizeLine; decide, [.int i tk, x'], .cons ⟨_, rfl⟩ (.cons ru .nil), ⟨_, hT2, rfl, _, rfl⟩⟩
    have I1 : Inv X pins σ (upd H s.heap.objs.size (.tup [.int (i : Nat), x])) { s with heap := h'', toks := tk + 1 } :=
      I.turnedNew (ch := [e, it]) (fun b ob hb q => (sb.2 b (fun z => hb (by simp [z]))).trans (hk b ob (fun z => hb (by simp [z])) (fun z => hb (by simp [z])) q)) hf (Nat.le_refl _) new
    refine ⟨.ref s.heap.objs.size, _, I1, rfl, ⟨_, x, rfl, I.hok.fresh (Nat.le_refl _), rfl, fun ys hy => by rw [I.tuple_inj hy hq]; exact hx⟩, ⟨⟨x', ?_⟩, hst'.1.at fun o q => (sb.2 it (Ne.symm hne)).trans q, hne⟩, fun b hb => ?_⟩
    · have e1 : ((i + 1 : Nat) : Int) = (i : Int) + 1 := by omega
      rw [e1]; exact he'
    · have hb' : b < s.heap.objs.size := by
        have e' : b = e ∨ b = it := by simpa using hb
        rcases e' with z | z
        · rw [z]; exact hel
        · rw [z]; exact hil
      rw [upd_ne (Nat.ne_of_lt hb')]
      exact (hf b hb).1
  done := by
    intro X hP hw hK hc i pins s σ H E I hf st hg
    subst hP hw hK
    obtain ⟨⟨old, he⟩, hit, hne⟩ := st
    obtain ⟨xs, hq, hx⟩ := hg
    obtain ⟨its, rv, p, hz⟩ := I.tuple hq
    obtain ⟨f0, f1, f2, f3, f4, f5⟩ := hf it (by simp)
    have hl := rv.length
    have pt : s.heap.IsTuple a its.toArray := p
    have hT : s.TypeIs (.ref e) "enumerate" := ⟨_, he, rfl⟩
    unfold pyNext
    refine wpAny_bind (wpAny_attempt (wpAny_callSpecial?_slot (name := Str.ofString "__next__") hT F.slot_enumerate_next
      (wpAny_call_entry F.slot_enumerate_next hT F.entry_enumerate_next ?_ (F.args_enumerate_next_1 _))))
    show wpAny _ _ (field (.ref e) 2 >>= _) _ _ _
    refine wpAny_bind (wpAny_field he rfl (x := .ref it) rfl ?_)
    refine wpAny_bind (wpAny_nextOf_tuple_end (by simpa using I.ok.hd hc) hit pt (by simp; omega) fun h' x he' hx' => ?_)
    obtain ⟨o, ho, hc'⟩ := hx'
    refine wpAny_bind (wpAny_isInstance (T := "StopIteration") (b := true) ⟨o, ho, hc'⟩ isSubtype_stop ?_)
    exact wpAny_pure ⟨rfl, I.turned (t' := s.toks) (fun b o hb q => he' b o hb q) f0 f1 f3 f4 f5⟩
  self := fun A i s Q E st h => let ⟨⟨_, he⟩, _⟩ := st; wpAny_pyIter_enum he h
def iEnumA (K : PySem.W.Frag) (ta : TA) : TI := fun σ H R => ta σ H fun vs H1 => ∃ a, vs = [.ref a] ∧ ((∃ xs, SqL K H1 a xs ∧ R (Ite K a) H1) ∨ ∃ xs, SqT K H1 a xs ∧ R (IteT K a) H1)
theorem pi_enumA {X : Cx} {e : Expr} {ta : TA} {p pos tpos : Pos} {elts : List Expr} {kk : Nat} (hg : Gl X "enumerate") (hm : X.mg "enumerate" = none) (ha : PA X [e] ta) (hs : starEach [e] X.env = [(false, eval e X.env)] := by rfl) :
    PI X (.Tuple elts kk tpos) (.Call (.Name "enumerate" p) [e] [] pos) (iEnumA X.K ta) := by
  refine ⟨fun pins s σ H R I h => ?_⟩
  refine Call_ (ld_blt I hg hm boot_enumerate (PyProof.Rows.callWith_type1 (thn (ha.run pos pins s σ H _ I h) fun us s1 ⟨vs, H1, I1, r1, q1⟩ => ?_) hs rfl))
  obtain ⟨a, ex, q⟩ := q1
  subst ex
  cases r1 with
  | cons r rr =>
    cases rr
    cases r
    have fp : ∀ b ∈ [s1.heap.objs.size + 1, s1.heap.objs.size], FpOk X pins H1 b := fun b hb => by
      have e' : b = s1.heap.objs.size + 1 ∨ b = s1.heap.objs.size := by simpa using hb
      have hle : s1.heap.objs.size ≤ b := by
        rcases e' with z | z
        · rw [z]; exact Nat.le_add_right _ _
        · rw [z]; exact Nat.le_refl _
      exact I1.fpOk hle (I1.hok.fresh hle)
    rcases q with ⟨xs, hq, q⟩ | ⟨xs, hq, q⟩
    · obtain ⟨its, rv, p', hz⟩ := I1.list hq
      refine call_enumerate_list p'.isList fun h' he hit hsz hk => wpAny_pyIter_enum he ?_
      have I2 : Inv X pins σ H1 { s1 with heap := h' } := I1.kept (t' := s1.toks) hk
      exact ⟨s1.heap.objs.size + 1, [s1.heap.objs.size + 1, s1.heap.objs.size], _, _, H1, rfl, I2, turn_enum a (s1.heap.objs.size + 1) s1.heap.objs.size, ⟨⟨.none, he⟩, hit, Nat.succ_ne_self _⟩, fp, q⟩
    · obtain ⟨its, rv, p', hz⟩ := I1.tuple hq
      refine enum_at (begins_tuple a its.toArray) (show s1.heap.IsTuple a its.toArray from p') fun h' he hit hsz hk => wpAny_pyIter_enum he ?_
      have I2 : Inv X pins σ H1 { s1 with heap := h' } := I1.kept (t' := s1.toks) hk
      exact ⟨s1.heap.objs.size + 1, [s1.heap.objs.size + 1, s1.heap.objs.size], _, _, H1, rfl, I2, turn_enumT a (s1.heap.objs.size + 1) s1.heap.objs.size, ⟨⟨.none, he⟩, ⟨_, hit, rfl, rfl⟩, Nat.succ_ne_self _⟩, fp, q⟩
/-! ### the layer -/
def enumD : Nat → List D → List D
  | _, [] => []
  | i, x :: r => .tup [.int (i : Nat), x] :: enumD (i + 1) r
theorem enumD_len : ∀ (i : Nat) (xs : List D), (enumD i xs).length = xs.length
  | _, [] => rfl
  | i, x :: r => by show (enumD (i + 1) r).length + 1 = _; rw [enumD_len]; rfl
theorem enumD_get : ∀ (k : Nat) (xs : List D) (i : Nat), (enumD k xs)[i]? = (xs[i]?).map fun x => .tup [.int ((k + i : Nat)), x]
  | _, [], i => by simp [enumD]
  | k, x :: r, 0 => rfl
  | k, x :: r, i + 1 => by
    show (enumD (k + 1) r)[i]? = _
    rw [enumD_get (k + 1) r i, List.getElem?_cons_succ, show k + 1 + i = k + (i + 1) by omega]
theorem ext_pair {G1 H : Hp} {T : Addr} {i : Nat} {x : V} (s : Same G1 H) (nT : H T = none) : Ext G1 H (upd G1 T (.tup [.int (i : Nat), x])) (upd H T (.tup [.int (i : Nat), x])) := .new s nT
theorem itd_enum {K : PySem.W.Frag} {G : Hp} {a : Addr} {vs : List V} {xs : List D} (h : G a = some (.lst vs)) (r : Dats K G xs vs) : Itd K G (Ite K a) (enumD 0 xs) where
  go := fun i H s hi => by
    rw [enumD_len] at hi
    obtain ⟨v, e, _⟩ := r.get (List.getElem?_eq_getElem hi)
    exact ⟨vs, v, .of (s _ _ h), e⟩
  stop := fun H s => ⟨vs, .of (s _ _ h), by rw [enumD_len, r.len]; exact Nat.le_refl _⟩
  yld := fun i G1 H v H' d s1 s2 e y => by
    obtain ⟨T, x, rfl, nT, rfl, y⟩ := y
    have q := y vs (.of (s2 _ _ (s1 _ _ h)))
    rw [enumD_get] at e
    obtain ⟨dx, e2, rfl⟩ := Option.map_eq_some_iff.mp e
    obtain ⟨w, e3, dw⟩ := r.get e2
    rw [q] at e3; cases e3
    refine ⟨_, ext_pair s2 nT, Dat.tup_iff.mpr ⟨T, _, rfl, upd_same, .cons (Dat.int_iff.mpr ?_) (.cons (dw.mono (s1.trans (same_upd (s2.free nT)))) .nil), show 2 ≤ line by decide⟩⟩
    rw [Nat.zero_add]
theorem itd_enumT {K : PySem.W.Frag} {G : Hp} {a : Addr} {vs : List V} {xs : List D} (h : G a = some (.tup vs)) (r : Dats K G xs vs) : Itd K G (IteT K a) (enumD 0 xs) where
  go := fun i H s hi => by
    rw [enumD_len] at hi
    obtain ⟨v, e, _⟩ := r.get (List.getElem?_eq_getElem hi)
    exact ⟨vs, v, .of (s _ _ h), e⟩
  stop := fun H s => ⟨vs, .of (s _ _ h), by rw [enumD_len, r.len]; exact Nat.le_refl _⟩
  yld := fun i G1 H v H' d s1 s2 e y => by
    obtain ⟨T, x, rfl, nT, rfl, y⟩ := y
    have q := y vs (.of (s2 _ _ (s1 _ _ h)))
    rw [enumD_get] at e
    obtain ⟨dx, e2, rfl⟩ := Option.map_eq_some_iff.mp e
    obtain ⟨w, e3, dw⟩ := r.get e2
    rw [q] at e3; cases e3
    refine ⟨_, ext_pair s2 nT, Dat.tup_iff.mpr ⟨T, _, rfl, upd_same, .cons (Dat.int_iff.mpr ?_) (.cons (dw.mono (s1.trans (same_upd (s2.free nT)))) .nil), show 2 ≤ line by decide⟩⟩
    rw [Nat.zero_add]
theorem itd_enumX {K : PySem.W.Frag} {G : Hp} {a : Addr} {o : Obj} {vs : List V} {xs : List D} (h : G a = some (.frz o (.tup vs))) (r : Dats K G xs vs) : Itd K G (IteT K a) (enumD 0 xs) where
  go := fun i H s hi => by
    rw [enumD_len] at hi
    obtain ⟨v, e, _⟩ := r.get (List.getElem?_eq_getElem hi)
    exact ⟨vs, v, .frz (s _ _ h), e⟩
  stop := fun H s => ⟨vs, .frz (s _ _ h), by rw [enumD_len, r.len]; exact Nat.le_refl _⟩
  yld := fun i G1 H v H' d s1 s2 e y => by
    obtain ⟨T, x, rfl, nT, rfl, y⟩ := y
    have q := y vs (.frz (s2 _ _ (s1 _ _ h)))
    rw [enumD_get] at e
    obtain ⟨dx, e2, rfl⟩ := Option.map_eq_some_iff.mp e
    obtain ⟨w, e3, dw⟩ := r.get e2
    rw [q] at e3; cases e3
    refine ⟨_, ext_pair s2 nT, Dat.tup_iff.mpr ⟨T, _, rfl, upd_same, .cons (Dat.int_iff.mpr ?_) (.cons (dw.mono (s1.trans (same_upd (s2.free nT)))) .nil), show 2 ≤ line by decide⟩⟩
    rw [Nat.zero_add]
/-- enumerate(x) -/
def iEn (a : PE') : PF' := fun ρ => (a ρ).bind fun x => .of (x.seq?.map (enumD 0))
section
variable {X : Cx} {W : WX} {e : Expr} {f : PE'} {pos : Pos}
theorem di_enum {p tpos : Pos} {elts : List Expr} {kk : Nat} (hm : X.mg "enumerate" = none) (h : DP X W e f) (hg : Gl X "enumerate" := by rfl) (hs : starEach [e] X.env = [(false, eval e X.env)] := by rfl)
    (hf : ∀ x, foldedSetIterable (.Call (.Name "enumerate" p) [e] [] pos) X.env x = pure x := by intro _; rfl) (hs2 : starEach [e] X.env = (false, eval e X.env) :: starEach [] X.env := by rfl) : DI X W (.Tuple elts kk tpos) (.Call (.Name "enumerate" p) [e] [] pos) (iEn f) := by
  refine ⟨?_, hf⟩
  obtain ⟨t, p, q⟩ := h.ex
  refine ⟨_, pi_enumA hg hm (pa_cons p pa_nil hs2) hs, fun ρ σ G H R I h => q ρ σ G H _ I (QG.imp (QG.bind h) fun d G' H' _ x k v dv => ?_)⟩
  obtain ⟨xs, ex, k2⟩ := QG.of x.sub k
  cases d with
  | lst ds =>
    cases ex
    obtain ⟨a, vs, rfl, h1, h2⟩ := Dat.lst_iff.mp dv
    exact ⟨a, rfl, .inl ⟨vs, .of (x.sub _ _ h1), k2 G' H' (.refl x.sub) (by rw [enumD_len]; exact h2.2) _ (itd_enum h1 h2.1)⟩⟩
  | tup ds =>
    cases ex
    obtain ⟨a, vs, rfl, h1, h2⟩ := Dat.tup_iff.mp dv
    exact ⟨a, rfl, .inr ⟨vs, .of (x.sub _ _ h1), k2 G' H' (.refl x.sub) (by rw [enumD_len]; exact h2.2) _ (itd_enumT h1 h2.1)⟩⟩
  | tux ds =>
    cases ex
    obtain ⟨a, o, vs, rfl, h1, _, h2⟩ := Dat.tux_iff.mp dv
    exact ⟨a, rfl, .inr ⟨vs, .frz (x.sub _ _ h1), k2 G' H' (.refl x.sub) (by rw [enumD_len]; exact h2.2) _ (itd_enumX h1 h2.1)⟩⟩
  | _ => cases ex
end
end Pu
end
section
set_option maxHeartbeats 1000000
/-! Pu, the layer: more built-ins and statements. -/
namespace Pu
open PySem PySem.Spec L2
open PyProof.Rows hiding St
section
variable {X : Cx} {W : WX} {e e1 e2 : Expr} {es : List Expr} {f f1 f2 : PE'} {t1 t2 : PT'} {g g1 g2 : SS} {pos : Pos} {st : Stmt} {x : Str} {p : Pos} {as : List PE'}
/-! ### tuple(xs), its object known -/
theorem call_tupleX : CallR X (.type "tuple") (fun xs H Q => ∃ p ys, xs = [.ref p] ∧ SqL X.K H p ys ∧ ∀ l o, H l = none → o.dict = none → Q (.ref l) (upd H l (.frz o (.tup ys)))) := by
  intro pins s σ H xs us Q I r h
  obtain ⟨p, ys, rfl, hq, q⟩ := h
  obtain ⟨u, rfl, rx⟩ := vals1 r
  cases rx
  obtain ⟨its, r', pl, hz⟩ := I.list hq
  have hlen := r'.length
  refine call_tuple_list pl.isList (fun h' kp => ?_) (by simp only [List.size_toArray] <;> omega)
  have I1 : Inv X pins σ H { s with heap := h' } := I.kept (t' := s.toks) kp
  have I2 : Inv X pins σ (upd H h'.objs.size (.frz { cls := .type "tuple", data := .seq its.toArray } (.tup ys))) { s with heap := h'.push { cls := .type "tuple", data := .seq its.toArray } } :=
    I1.laid (t' := s.toks) (fun b o e => Heap.get?_push_of_some _ e) (Nat.le_refl _) (show ObjOk X.prog X.w _ _ _ (.frz _ (.tup ys)) from ⟨Heap.get?_push_size _ rfl, hz, its, r', IsTup.new _ _⟩)
  exact ⟨.ref h'.objs.size, _, I2, rfl, q _ _ (I1.hok.fresh (Nat.le_refl _)) rfl⟩
theorem vn_tupleX : VN X (fun xs H Q => ∃ p ys, xs = [.ref p] ∧ SqL X.K H p ys ∧ ∀ l o, H l = none → o.dict = none → Q (.ref l) (upd H l (.frz o (.tup ys)))) oTupleX := by
  intro G H ds vs d' Q s b h q
  match ds, h with
  | [.lst xs], h =>
    cases h
    obtain ⟨v, rfl, bv⟩ := bors1 b
    obtain ⟨p, us, rfl, h1, h2⟩ := bv.lst s
    exact ⟨p, us, rfl, .of h1, fun l o nl z => q _ _ (.new s nl) _ (Dat.tux_iff.mpr ⟨l, o, us, rfl, upd_same, z, h2.1.mono (same_upd (s.free nl)), h2.2⟩)⟩
/-! ### index -/
def rIdxL (K : PySem.W.Frag) : V → List V → Hp → VK → Prop := fun x xs H Q => ∃ (a : Addr) (ns : List Int) (i : Int), x = V.ref a ∧ xs = [.int i] ∧ SqL K H a (ns.map V.int) ∧ i ∈ ns ∧ Q (.int (ns.idxOf i : Nat)) H
def rIdxT (K : PySem.W.Frag) : V → List V → Hp → VK → Prop := fun x xs H Q => ∃ (a : Addr) (ns : List Int) (i : Int), x = V.ref a ∧ xs = [.int i] ∧ SqT K H a (ns.map V.int) ∧ i ∈ ns ∧ Q (.int (ns.idxOf i : Nat)) H
theorem mt_idxL : MtR X "list.index" (rIdxL X.K) := by
  intro pins s σ H x xs v us Q I rx rxs h
  obtain ⟨a, ns, i, rfl, rfl, hq, hm, q⟩ := h
  cases rx
  obtain ⟨u, rfl, ru⟩ := vals1 rxs
  obtain ⟨t, rfl⟩ := ru
  obtain ⟨its, r, pl, hz⟩ := I.list hq
  rw [List.length_map] at hz
  exact SeqAt.list_index_ints pl.isList r.ints hz hm ⟨.int _, H, I.tok _, ⟨_, rfl⟩, q⟩
theorem mt_idxT : MtR X "tuple.index" (rIdxT X.K) := by
  intro pins s σ H x xs v us Q I rx rxs h
  obtain ⟨a, ns, i, rfl, rfl, hq, hm, q⟩ := h
  cases rx
  obtain ⟨u, rfl, ru⟩ := vals1 rxs
  obtain ⟨t, rfl⟩ := ru
  obtain ⟨its, r, pl, hz⟩ := I.tuple hq
  exact SeqAt.tuple_index_ints (show s.heap.IsTuple a its.toArray from pl) r.ints hm ⟨.int _, H, I.tok _, ⟨_, rfl⟩, q⟩
def isLst : D → Bool
  | .lst _ => true
  | _ => false
def isTux : D → Bool
  | .tux _ => true
  | _ => false
/-- x.m(y), x of the kind isT -/
def pMt (isT : D → Bool) (g : D → D → Option D) (a b : PE') : PE' := fun ρ => (a ρ).bind fun x => if isT x then (b ρ).bind fun y => .of (g x y) else .stuck
def idxD (xs : List D) : D → Option D
  | .int i => (D.ints xs).bind fun ns => if i ∈ ns then some (.int (ns.idxOf i)) else none
  | _ => none
def oIdx : D → D → Option D
  | .lst xs, d => idxD xs d
  | .tux xs, d => idxD xs d
  | _, _ => none
theorem idx_some {xs : List D} {d z : D} {K : PySem.W.Frag} {G : Hp} {vs : List V} (h : idxD xs d = some z) (r : Dats K G xs vs) : ∃ (ns : List Int) (i : Int), d = .int i ∧ vs = ns.map V.int ∧ i ∈ ns ∧ z = .int (ns.idxOf i) := by
  cases d with
  | int i =>
    obtain ⟨ns, e1, e2⟩ := Option.bind_eq_some_iff.mp (show (D.ints xs).bind (fun ns => if i ∈ ns then some (D.int (ns.idxOf i)) else none) = some z from h)
    by_cases hm : i ∈ ns
    · rw [if_pos hm] at e2
      cases e2
      have e3 := ints_some e1
      subst e3
      exact ⟨ns, i, rfl, r.ints, hm, rfl⟩
    · rw [if_neg hm] at e2; cases e2
  | _ => cases h
theorem dp_idxL {apos cpos : Pos} {ep : Expr} (hd : DB X W e f) (ha : DP X W ep f1) (hbase : attributeBase e "index" X.env (eval e X.env) = eval e X.env := by rfl)
    (hfew : ((backTo cpos (starEach [ep] X.env)).all (fun x => !x.1) && (backToKw cpos (keywordEach [] X.env)).all (fun x => x.1.isSome)
      && decide ([ep].length + ([] : List Keyword).length + (if ([] : List Keyword).isEmpty then 0 else 1) < 30)) = true := by rfl)
    (hline : (apos.endLine == cpos.line) = true := by rfl) (hs : starEach [ep] X.env = (false, eval ep X.env) :: starEach [] X.env := by rfl) (hplain : (backTo cpos (starEach [] X.env)).any (·.1) = false := by rfl) :
    DP X W (.Call (.Attribute e "index" apos) [ep] [] cpos) (pMt isLst oIdx f f1) := by
  obtain ⟨t, p, q⟩ := hd.ex
  obtain ⟨ta, pa, qa⟩ := ha.ex
  refine ⟨_, pe_bm PySem.F.plainAttrs_list PySem.F.slot_list_index PySem.F.type_list_index mt_idxL p (pa_cons pa pa_nil hs) hbase hfew hline hs hplain, fun ρ σ G H Q R h => q ρ σ G H _ R (QG.imp (QG.bind h) fun d G1 H1 _ x1 k v bv => ?_)⟩
  cases d with
  | lst xs =>
    obtain ⟨a, vs, rfl, h1, h2⟩ := bv.lst x1.sub
    have k' : QP X.K W σ G1 H1 Q ((f1 ρ).bind fun y => .of (oIdx (.lst xs) y)) := k
    refine ⟨.inl ⟨rfl, vs, .of h1⟩, qa ρ σ G1 H1 _ (R.ext x1) (QG.imp (QG.bind k') fun d2 G2 H2 _ x2 k2 u bu => ?_)⟩
    obtain ⟨z, ez, k3⟩ := QG.of x2.sub k2
    obtain ⟨ns, i, rfl, rfl, hm, rfl⟩ := idx_some (show idxD xs d2 = some z from ez) h2.1
    exact ⟨a, ns, i, rfl, by rw [Dat.int_iff.mp bu], .of (x2.h _ _ h1), hm, k3 G2 H2 (.refl x2.sub) _ (Dat.int_iff.mpr rfl)⟩
  | _ => exact k.elim
def tyTux (x : V) (H : Hp) : Prop := ∃ p o ys, x = .ref p ∧ H p = some (.frz o (.tup ys)) ∧ o.dict = none
theorem ty_tux : TyOk X "tuple" tyTux := by
  intro pins σ H s x v I r ty
  obtain ⟨p, o, ys, rfl, h, z⟩ := ty
  cases r
  obtain ⟨h1, _, _, _, o2, h2, h3, _⟩ := (show ObjOk X.prog X.w H s.heap p (.frz o (.tup ys)) from I.hok p _ h)
  rw [h1] at h2
  cases h2
  refine ⟨⟨o, h1, h3⟩, fun b e => ?_⟩
  cases e
  exact ⟨o, h1, z⟩
theorem dp_idxT {apos cpos : Pos} {ep : Expr} (hd : DB X W e f) (ha : DP X W ep f1) (hbase : attributeBase e "index" X.env (eval e X.env) = eval e X.env := by rfl)
    (hfew : ((backTo cpos (starEach [ep] X.env)).all (fun x => !x.1) && (backToKw cpos (keywordEach [] X.env)).all (fun x => x.1.isSome)
      && decide ([ep].length + ([] : List Keyword).length + (if ([] : List Keyword).isEmpty then 0 else 1) < 30)) = true := by rfl)
    (hline : (apos.endLine == cpos.line) = true := by rfl) (hs : starEach [ep] X.env = (false, eval ep X.env) :: starEach [] X.env := by rfl) (hplain : (backTo cpos (starEach [] X.env)).any (·.1) = false := by rfl) :
    DP X W (.Call (.Attribute e "index" apos) [ep] [] cpos) (pMt isTux oIdx f f1) := by
  obtain ⟨t, p, q⟩ := hd.ex
  obtain ⟨ta, pa, qa⟩ := ha.ex
  refine ⟨_, pe_mG ty_tux PySem.F.plainAttrs_tuple PySem.F.slot_tuple_index PySem.F.type_tuple_index mt_idxT p (pa_cons pa pa_nil hs) hbase hfew hline hs hplain, fun ρ σ G H Q R h => q ρ σ G H _ R (QG.imp (QG.bind h) fun d G1 H1 _ x1 k v bv => ?_)⟩
  cases d with
  | tux xs =>
    obtain ⟨a, o, vs, rfl, _, h1, z, h2⟩ := bv.tux x1.sub
    have k' : QP X.K W σ G1 H1 Q ((f1 ρ).bind fun y => .of (oIdx (.tux xs) y)) := k
    refine ⟨⟨a, o, vs, rfl, h1, z⟩, qa ρ σ G1 H1 _ (R.ext x1) (QG.imp (QG.bind k') fun d2 G2 H2 _ x2 k2 u bu => ?_)⟩
    obtain ⟨z, ez, k3⟩ := QG.of x2.sub k2
    obtain ⟨ns, i, rfl, rfl, hm, rfl⟩ := idx_some (show idxD xs d2 = some z from ez) h2.1
    exact ⟨a, ns, i, rfl, by rw [Dat.int_iff.mp bu], .frz (x2.h _ _ h1), hm, k3 G2 H2 (.refl x2.sub) _ (Dat.int_iff.mpr rfl)⟩
  | _ => exact k.elim
/-! ### min, sum of a list of ints -/
theorem foldl_min (r : List Int) : ∀ x : Int, r.foldl min x ∈ x :: r ∧ ∀ y ∈ x :: r, r.foldl min x ≤ y := by
  induction r with
  | nil =>
    intro x
    refine ⟨List.mem_cons_self, fun y hy => ?_⟩
    rcases List.mem_cons.mp hy with e | e
    · rw [e]; exact Int.le_refl _
    · cases e
  | cons a r ih =>
    intro x
    obtain ⟨h1, h2⟩ := ih (min x a)
    refine ⟨?_, fun y hy => ?_⟩
    · show r.foldl min (min x a) ∈ _
      rcases List.mem_cons.mp h1 with e | e
      · rw [e]
        rcases Int.le_total x a with c | c
        · rw [Int.min_eq_left c]; exact List.mem_cons_self
        · rw [Int.min_eq_right c]; exact List.mem_cons_of_mem _ List.mem_cons_self
      · exact List.mem_cons_of_mem _ (List.mem_cons_of_mem _ e)
    · show r.foldl min (min x a) ≤ y
      have h3 := h2 (min x a) List.mem_cons_self
      rcases List.mem_cons.mp hy with e | hy
      · rw [e]; exact Int.le_trans h3 (Int.min_le_left _ _)
      · rcases List.mem_cons.mp hy with e | hy
        · rw [e]; exact Int.le_trans h3 (Int.min_le_right _ _)
        · exact h2 y (List.mem_cons_of_mem _ hy)
theorem mn_is {ns : List Int} {m : Int} (h : mn ns = some m) : m ∈ ns ∧ ∀ y ∈ ns, m ≤ y := by
  cases ns with
  | nil => cases h
  | cons x r => cases h; exact foldl_min r x
theorem vn_minL : VN X (rMin X.K) oMinL := by
  intro G H ds vs d' Q s b h q
  match ds, h with
  | [.lst xs], h =>
    obtain ⟨v, rfl, bv⟩ := bors1 b
    obtain ⟨p, us, rfl, h1, h2⟩ := bv.lst s
    obtain ⟨ns, e1, e2⟩ := Option.bind_eq_some_iff.mp (show (D.ints xs).bind (fun ns => (mn ns).map D.int) = some d' from h)
    obtain ⟨m, e3, rfl⟩ := Option.map_eq_some_iff.mp e2
    have e4 := ints_some e1
    subst e4
    obtain ⟨a1, a2⟩ := mn_is e3
    refine ⟨p, ns, rfl, by rw [← h2.1.ints]; exact .of h1, List.length_pos_iff.mpr (List.ne_nil_of_mem a1), fun k k1 k2 => ?_⟩
    have : k = m := Int.le_antisymm (k2 m a1) (a2 k k1)
    subst this
    exact q G H (.refl s) _ (Dat.int_iff.mpr rfl)
theorem vn_sum : VN X (rSum X.K) oSum := by
  intro G H ds vs d' Q s b h q
  match ds, h with
  | [.lst xs], h =>
    obtain ⟨v, rfl, bv⟩ := bors1 b
    obtain ⟨p, us, rfl, h1, h2⟩ := bv.lst s
    obtain ⟨ns, e1, rfl⟩ := Option.map_eq_some_iff.mp (show (D.ints xs).map (fun ns => D.int ns.sum) = some d' from h)
    have e4 := ints_some e1
    subst e4
    exact ⟨p, ns, rfl, by rw [← h2.1.ints]; exact .of h1, q G H (.refl s) _ (Dat.int_iff.mpr rfl)⟩
/-! ### len(set(x)) -/
def tLenSetA (K : PySem.W.Frag) (ta : TE) : TE := fun σ H Q => ta σ H fun x H1 => ∃ (l : Addr) (ns : List Int), x = .ref l ∧ (SqL K H1 l (ns.map V.int) ∨ SqT K H1 l (ns.map V.int)) ∧ ns.Nodup ∧ ns.length ≤ 4000 ∧ Q (.int (ns.length : Nat)) H1
theorem pe_lenSetA {a : Expr} {ta : TE} {p p2 q pos : Pos} (hg : Gl X "len") (hm : X.mg "len" = none) (hg2 : Gl X "set") (hm2 : X.mg "set" = none) (ha : PE X a ta) (hc : X.calm = true)
    (na : starEach [a] X.env = (false, eval a X.env) :: starEach [] X.env := by rfl) : PE X (.Call (.Name "len" p) [.Call (.Name "set" p2) [a] [] q] [] pos) (tLenSetA X.K ta) := by
  refine ⟨fun pins s σ H Q I h => ?_⟩
  refine Call_ (ld_blt I hg hm PySem.boot_len ?_)
  refine PyProof.Rows.callWith_builtin1 (PyProof.Rows.args_cons ?_ rfl) rfl rfl
  refine Call_ (ld_blt I hg2 hm2 PyProof.Rows.boot_set ?_)
  refine PyProof.Rows.callWith_type1 (PyProof.Rows.args_cons (thn (ha.run pins s σ H _ I h) fun v s1 ⟨x, H1, I1, r1, q1⟩ => PyProof.Rows.args_nil ?_) na) na rfl
  obtain ⟨l, ns, rfl, hq, hnd, hl, q1⟩ := q1
  cases r1
  rcases hq with hq | hq
  · obtain ⟨its, r, pl, hz⟩ := I1.list hq
    have hlen : its.toArray.size = ns.length := by rw [List.size_toArray, ← r.length, List.length_map]
    refine call_set_list (I1.ok.hd hc) pl.isList (ns := ns) (by simpa using r.ints) (by rw [hlen]; unfold scanBound; omega) fun h' tk hS hk => ?_
    refine PyProof.Rows.args_nil ?_
    rw [hlen, firstMet_nodup ns hnd ns.length (Nat.le_refl _), List.take_length] at hS
    obtain ⟨o, es, ep, t, ho, hex, hd, _, _, _, hf, hn⟩ := hS
    have I2 : Inv X pins σ H1 { s1 with heap := h', toks := tk } := I1.kept fun b o e => hk b o (Heap.lt_size e) e
    exact call_len_set ho hex hd hf (by rw [hn] <;> omega) ⟨.int ns.length, H1, I2.tok _, ⟨_, by rw [hn]⟩, q1⟩
  · obtain ⟨its, r, pl, hz⟩ := I1.tuple hq
    have hlen : its.toArray.size = ns.length := by rw [List.size_toArray, ← r.length, List.length_map]
    refine set_tuple_ints (I1.ok.hd hc) (show s1.heap.IsTuple l its.toArray from pl) (ns := ns) (by simpa using r.ints) (by rw [hlen]; unfold scanBound; omega) fun h' tk hS hk => ?_
    refine PyProof.Rows.args_nil ?_
    rw [hlen, firstMet_nodup ns hnd ns.length (Nat.le_refl _), List.take_length] at hS
    obtain ⟨o, es, ep, t, ho, hex, hd, _, _, _, hf, hn⟩ := hS
    have I2 : Inv X pins σ H1 { s1 with heap := h', toks := tk } := I1.kept fun b o e => hk b o (Heap.lt_size e) e
    exact call_len_set ho hex hd hf (by rw [hn] <;> omega) ⟨.int ns.length, H1, I2.tok _, ⟨_, by rw [hn]⟩, q1⟩
theorem dp_lenSet {p2 q : Pos} (hc : X.calm = true) (hm : X.mg "len" = none) (hm2 : X.mg "set" = none) (ha : DB X W e f) (hg : Gl X "len" := by rfl) (hg2 : Gl X "set" := by rfl)
    (na : starEach [e] X.env = (false, eval e X.env) :: starEach [] X.env := by rfl) : DP X W (.Call (.Name "len" p) [.Call (.Name "set" p2) [e] [] q] [] pos) (pN oLenSet [f]) := by
  obtain ⟨t, p, q⟩ := ha.ex
  refine ⟨_, pe_lenSetA hg hm hg2 hm2 p hc na, fun ρ σ G H Q R h => q ρ σ G H _ R ?_⟩
  have h' : QP X.K W σ G H Q (((f ρ).bind fun x => .ok [x]).bind fun xs => .of (oLenSet xs)) := h
  cases ho : f ρ with
  | stuck => rw [ho] at h'; exact h'
  | exc C ns ds => rw [ho] at h'; exact h'
  | ok d =>
    rw [ho] at h'
    have h2 : QP X.K W σ G H Q (.of (oLenSet [d])) := h'
    intro G1 H1 x1 v bv
    have fin : ∀ (xs : List D) (p : Addr) (vs : List V), oLenSet [d] = ((D.ints xs).bind fun ns => if ns.Nodup ∧ ns.length ≤ 4000 then some (.int ns.length) else none) → Dats X.K G1 xs vs → (SqL X.K H1 p vs ∨ SqT X.K H1 p vs) → v = .ref p →
        ∃ (l : Addr) (ns : List Int), v = .ref l ∧ (SqL X.K H1 l (ns.map V.int) ∨ SqT X.K H1 l (ns.map V.int)) ∧ ns.Nodup ∧ ns.length ≤ 4000 ∧ Q (.int (ns.length : Nat)) H1 := by
      intro xs p vs e r hq ev
      rw [e] at h2
      cases hi : D.ints xs with
      | none => rw [hi] at h2; exact h2.elim
      | some ns =>
        rw [hi] at h2
        have h3 : QP X.K W σ G H Q (.of (if ns.Nodup ∧ ns.length ≤ 4000 then some (.int ns.length) else none)) := h2
        by_cases c : ns.Nodup ∧ ns.length ≤ 4000
        · rw [if_pos c] at h3
          have e4 := ints_some hi
          subst e4
          have e5 := r.ints
          subst e5
          exact ⟨p, ns, ev, hq, c.1, c.2, h3 G1 H1 x1 _ (Dat.int_iff.mpr rfl)⟩
        · rw [if_neg c] at h3; exact h3.elim
    cases d with
    | lst xs =>
      obtain ⟨p, vs, rfl, h3, h4⟩ := bv.lst x1.sub
      exact fin xs p vs rfl h4.1 (.inl (.of h3)) rfl
    | tup xs =>
      obtain ⟨p, vs, rfl, _, h3, h4⟩ := bv.tup x1.sub
      exact fin xs p vs rfl h4.1 (.inr (.of h3)) rfl
    | _ => exact h2.elim
/-! ### isinstance -/
def tyName : Ty → String
  | .int => "int" | .bool => "bool" | .str => "str" | .list => "list" | .tuple => "tuple"
end
end Pu
end
section
set_option maxHeartbeats 1000000
/-! Pu, the layer: isinstance, class constants, dicts, range by steps. -/
namespace Pu
open PySem PySem.Spec L2
open PyProof.Rows hiding St
section
variable {X : Cx} {W : WX} {e e1 e2 : Expr} {es : List Expr} {f f1 f2 : PE'} {t1 t2 : PT'} {g g1 g2 : SS} {pos : Pos} {st : Stmt} {x : Str} {p : Pos} {as : List PE'}
/-- isinstance(e, T), T a built-in class -/
theorem ty_facts {K : PySem.W.Frag} : ∀ {T : Ty} {d : D} {b : Bool} {G H : Hp} {v : V}, Same G H → tyIs T d = some b → Bor K G H d v → ∃ t, TyX K H v t ∧ PySem.W.kitOne K t (.type (tyName T)) = some b := by
  intro T d b G H v s h bv
  have k : ∀ (a : String) (hd : TyX K H v (.type a)), kitB a (tyName T) = some b → ∃ t, TyX K H v t ∧ PySem.W.kitOne K t (.type (tyName T)) = some b := fun a hd e => ⟨_, hd, kit_ty e⟩
  cases d with
  | non =>
    rw [bv.non] at k ⊢
    refine k "NoneType" (.base .non) ?_
    cases T <;> cases h <;> decide +kernel
  | bl c =>
    rw [bv.bl] at k ⊢
    refine k "bool" (.base (.bl c)) ?_
    cases T <;> cases h <;> decide +kernel
  | int c =>
    rw [bv.int] at k ⊢
    refine k "int" (.base (.int c)) ?_
    cases T <;> cases h <;> decide +kernel
  | str c =>
    rw [bv.str] at k ⊢
    refine k "str" (.base (.str c)) ?_
    cases T <;> cases h <;> decide +kernel
  | lst xs =>
    obtain ⟨a, vs, rfl, h1, _⟩ := bv.lst s
    refine k "list" (.base (.lst h1)) ?_
    cases T <;> cases h <;> decide +kernel
  | tup xs =>
    obtain ⟨a, vs, rfl, _, h1, _⟩ := bv.tup s
    refine k "tuple" (.base (.tup h1)) ?_
    cases T <;> cases h <;> decide +kernel
  | tux xs =>
    obtain ⟨a, o, vs, rfl, _, h1, _⟩ := bv.tux s
    refine k "tuple" (.fTuple h1) ?_
    cases T <;> cases h <;> decide +kernel
  | obj C ns ds => cases T <;> cases h
  | scr ns => cases T <;> cases h
def boot_of : ∀ T : Ty, bootBuiltins (tyName T) = some (.type (tyName T))
  | .int => by decide +kernel
  | .bool => by decide +kernel
  | .str => by decide +kernel
  | .list => by decide +kernel
  | .tuple => by decide +kernel
theorem dp_isi (T : Ty) {p2 : Pos} {y : Str} (hm : X.mg "isinstance" = none) (hy : y = (tyName T : Str)) (hm2 : X.mg y = none) (ha : DB X W e f) (hg : Gl X "isinstance" := by rfl) (hg2 : Gl X y := by rfl)
    (hn : y ≠ "__name__" := by decide) (hdb : (y == ("__debug__" : Str)) = false := by decide)
    (na : starEach [e, .Name y p2] X.env = (false, eval e X.env) :: starEach [.Name y p2] X.env := by rfl) (nb : starEach [.Name y p2] X.env = (false, eval (.Name y p2) X.env) :: starEach [] X.env := by rfl)
    (hpl : (backTo pos (starEach [.Name y p2] X.env)).any (·.1) = false := by rfl) : DP X W (.Call (.Name "isinstance" p) [e, .Name y p2] [] pos) (p1 (oIs T) f) := by
  subst hy
  obtain ⟨t, p, q⟩ := ha.ex
  refine ⟨_, pe_callB call_isi hg hm (by decide +kernel) (pa_cons p (pa_cons (pe_bltn (v := .ty (tyName T)) (u := .type (tyName T)) hg2 hm2 (boot_of T) rfl hn hdb) pa_nil nb) na) (he := na) (hpl := hpl), fun ρ σ G H Q R k => q ρ σ G H _ R (QG.imp (QG.bind k) fun d G1 H1 ho x1 k2 v bv => ?_)⟩
  obtain ⟨z, ez, k3⟩ := QG.of x1.sub k2
  obtain ⟨b, e1, rfl⟩ := Option.map_eq_some_iff.mp (show (tyIs T d).map D.bl = some z from ez)
  obtain ⟨t, h1, h2⟩ := ty_facts x1.sub e1 bv
  exact ⟨v, .ty (tyName T), t, .type (tyName T), b, rfl, .ty _, h1, h2, k3 G1 H1 (.refl x1.sub) _ (Dat.bl_iff.mpr rfl)⟩
/-- isinstance(e, C), e an object of the class C of the program -/
structure OfC (K : PySem.W.Frag) (C : Addr) : Prop where
  cl : Cls K C
  ha : PySem.W.findIn K (.ref C) "__class__" = some (some (.builtin "object.__class__"))
  hn : PySem.W.specialIn K (.builtin "object.__class__") "__get__" = some (some (.builtin "getset_descriptor.__get__"))
  htk : PySem.W.takesIn K (.builtin "object.__class__") = some true
  hm : PySem.W.mroIn K C (.type "object") = some true
theorem dp_isiC {C : Addr} {p2 : Pos} {y : Str} (o : OfC X.K C) (hm : X.mg "isinstance" = none) (hm2 : X.mg y = some (.ref C)) (ha : DB X W e f) (hg : Gl X "isinstance" := by rfl) (hg2 : Gl X y := by rfl)
    (hdb : (y == ("__debug__" : Str)) = false := by decide)
    (na : starEach [e, .Name y p2] X.env = (false, eval e X.env) :: starEach [.Name y p2] X.env := by rfl) (nb : starEach [.Name y p2] X.env = (false, eval (.Name y p2) X.env) :: starEach [] X.env := by rfl)
    (hpl : (backTo pos (starEach [.Name y p2] X.env)).any (·.1) = false := by rfl) : DP X W (.Call (.Name "isinstance" p) [e, .Name y p2] [] pos) (p1 (oIsC C) f) := by
  obtain ⟨t, p, q⟩ := ha.ex
  refine ⟨_, pe_callB call_isi hg hm (by decide +kernel) (pa_cons p (pa_cons (pe_glob (v := .ref C) hg2 hm2 rfl hdb) pa_nil nb) na) (he := na) (hpl := hpl), fun ρ σ G H Q R k => q ρ σ G H _ R (QG.imp (QG.bind k) fun d G1 H1 ho x1 k2 v bv => ?_)⟩
  obtain ⟨z, ez, k3⟩ := QG.of x1.sub k2
  cases d with
  | obj C' ns ds =>
    have ez' : (if C' = C then some (D.bl true) else none) = some z := ez
    by_cases hc : C' = C
    · rw [if_pos hc] at ez'
      cases ez'
      subst hc
      obtain ⟨b, dx, vs, rfl, h1, h2, h3⟩ := Dat.obj_iff.mp (bv.dat fun _ => by simp)
      refine ⟨.ref b, .ref C', .ref C', .ref C', true, rfl, .own C', .base (.ins (x1.sub _ _ h1) o.cl o.ha o.hn o.htk o.hm), ?_, k3 G1 H1 (.refl x1.sub) _ (Dat.bl_iff.mpr rfl)⟩
      unfold PySem.W.kitOne
      rw [if_pos (by exact beq_self_eq_true _)]
    · rw [if_neg hc] at ez'; cases ez'
  | _ => cases ez
/-- C.f, an int constant of the class -/
theorem dp_cval {C : Addr} {y f : Str} {i : Int} {mc u : Value} (hm : X.mg y = some (.ref C)) (r : ClX.CRead X.K C mc) (k : ClX.CVal X.K C mc f (.int i) u) (hg : Gl X y := by rfl) (hdb : (y == ("__debug__" : Str)) = false := by decide)
    (hb : attributeBase (.Name y p) f X.env (eval (.Name y p) X.env) = eval (.Name y p) X.env := by rfl) : DP X W (.Attribute (.Name y p) f pos) (pC (.int i)) :=
  ⟨_, ClX.pe_cval (pe_glob (v := .ref C) hg hm rfl hdb) hb, fun ρ σ G H Q R h => ⟨C, mc, .int i, u, rfl, r, k, h G H (.refl R.sub) _ (Dat.int_iff.mpr rfl)⟩⟩
/-! ### what is never reached -/
def sNo : SS := fun _ => .stuck
theorem ds_no : DS X W st sNo := ⟨_, ps_never, fun pn G0 H0 ρ σ G H D R h => h.elim⟩
/-! ### range by steps -/
def rngC (lo c : Int) (n : Nat) : List D := (List.range n).map fun i : Nat => .int (lo + (i : Int) * c)
theorem rngC_len (lo c : Int) (n : Nat) : (rngC lo c n).length = n := by unfold rngC; rw [List.length_map, List.length_range]
def stepN (i j c : Int) : Nat := Builtin.Range.rangeSize i j c |>.toNat
/-- range(i, j, c), c > 0 -/
def oRange3 : List D → Option (List D)
  | [.int i, .int j, .int c] => if 0 < c ∧ c < 1073741824 ∧ Builtin.Range.small i j c = true ∧ Builtin.Range.rangeSize i j c = ((j - i + c - 1) / c).toNat ∧ ((j - i + c - 1) / c).toNat ≤ line then some (rngC i c ((j - i + c - 1) / c).toNat) else none
  | _ => none
theorem itd_rangeC {K : PySem.W.Frag} {G : Hp} {lo c : Int} {n : Nat} : Itd K G (Itc lo c n) (rngC lo c n) where
  go := fun i H s hi => by rw [rngC_len] at hi; exact hi
  stop := fun H s => by rw [rngC_len]; exact Nat.le_refl n
  yld := fun i G1 H v H' d s1 s2 e y => by
    obtain ⟨e1, e2⟩ := y
    subst e1
    have hl := (List.getElem?_eq_some_iff.mp e).1
    rw [rngC_len] at hl
    unfold rngC at e
    rw [List.getElem?_map, List.getElem?_range hl] at e
    cases e
    exact ⟨G1, .refl s2, Dat.int_iff.mpr e2⟩
theorem dats3 {K : PySem.W.Frag} {G : Hp} {d d' d3 : D} {vs : List V} (h : Dats K G [d, d', d3] vs) : ∃ v w u, vs = [v, w, u] ∧ Dat K G d v ∧ Dat K G d' w ∧ Dat K G d3 u := by
  obtain ⟨v, r, rfl, h1, h2⟩ := h.cons_inv
  obtain ⟨w, u, rfl, h3, h4⟩ := dats2 h2
  exact ⟨v, w, u, rfl, h1, h3, h4⟩
theorem di_range3 {tg e3 : Expr} {f3 : PE'} (hm : X.mg "range" = none) (h : DA X W [e1, e2, e3] (pArgs [f1, f2, f3])) (hg : Gl X "range" := by rfl)
    (hs : starEach [e1, e2, e3] X.env = (false, eval e1 X.env) :: starEach [e2, e3] X.env := by rfl) (hpl : (backTo pos (starEach [e2, e3] X.env)).any (·.1) = false := by rfl)
    (hf : ∀ x, foldedSetIterable (.Call (.Name "range" p) [e1, e2, e3] [] pos) X.env x = pure x := by intro _; rfl) : DI X W tg (.Call (.Name "range" p) [e1, e2, e3] [] pos) (fN oRange3 [f1, f2, f3]) := by
  refine ⟨?_, hf⟩
  obtain ⟨t, p, q⟩ := h.ex
  refine ⟨_, pi_range3 hg hm p hs hpl, fun ρ σ G H R I h => q ρ σ G H _ I (QG.imp (QG.bind h) fun ds G' H' ho x k vs dv => ?_)⟩
  obtain ⟨xs, ex, k2⟩ := QG.of x.sub k
  match ds, ex with
  | [.int i, .int j, .int c], ex =>
    obtain ⟨v, w, u, rfl, hv, hw, hu⟩ := dats3 dv
    have ex' : (if 0 < c ∧ c < 1073741824 ∧ Builtin.Range.small i j c = true ∧ Builtin.Range.rangeSize i j c = ((j - i + c - 1) / c).toNat ∧ ((j - i + c - 1) / c).toNat ≤ line then some (rngC i c ((j - i + c - 1) / c).toNat) else none) = some xs := ex
    by_cases cc : 0 < c ∧ c < 1073741824 ∧ Builtin.Range.small i j c = true ∧ Builtin.Range.rangeSize i j c = ((j - i + c - 1) / c).toNat ∧ ((j - i + c - 1) / c).toNat ≤ line
    · rw [if_pos cc] at ex'
      cases ex'
      exact ⟨i, j, c, _, by rw [Dat.int_iff.mp hv, Dat.int_iff.mp hw, Dat.int_iff.mp hu], ⟨by omega, by omega, cc.2.2.1, by rw [cc.2.2.2.1]⟩, k2 G' H' (.refl x.sub) (by rw [rngC_len]; exact cc.2.2.2.2) _ itd_rangeC⟩
    · rw [if_neg cc] at ex'; cases ex'
/-! ### dicts -/
theorem ds_newD (i : Nat) {pos' p2 : Pos} (hN : X.N.Nodup) (hi : X.N[i]? = some x := by rfl) (hx : Loc X.env.scope x := by first | exact Or.inl rfl | exact Or.inr rfl) (hs : swapsWith (.Dict [] [] p2) (some (.Name x pos')) pos.line X.env = pure false := by rfl) (hf : X.fn x = true ∨ X.env.scope.names.lookup x = some .local := by first | exact .inl rfl | exact .inr rfl) :
    DS X W (.Assign [.Name x pos'] (.Dict [] [] p2) pos) (sNewD i) := by
  refine ⟨_, ps_set hN hi hx pe_dnewT hs hf, fun pn G0 H0 ρ σ G H D R h => fun q nq => ?_⟩
  have k : ∀ σ' G' H', Rep X.K pn G0 H0 (ρ.set i (.md [])) σ' G' H' → Same G G' → D.nx σ' H' := h
  exact k _ G _ (R.set_own (.own R.rs.sub nq) nq ⟨q, [], rfl, upd_same, R.rs.sub.free nq, rfl⟩ trivial (by simp)) (Same.refl _)
theorem kvs_get {K : PySem.W.Frag} {G : Hp} (k : List PKey) : ∀ {kvs : List (List PKey × D)} {ws : List (List Key × V)}, KVs K G kvs ws → (valV ws k).isSome = (kvGet kvs k).isSome
  | [], ws, h => by rw [show ws = [] from h]; rfl
  | (k', d) :: r, ws, ⟨v, s, e, h1, h2⟩ => by
    subst e
    unfold valV kvGet
    by_cases c : k' = k
    · simp [List.find?_cons, c]
    · have := kvs_get k h2
      unfold valV kvGet at this
      simpa [List.find?_cons, c] using this
theorem kvs_len {K : PySem.W.Frag} {G : Hp} : ∀ {kvs : List (List PKey × D)} {ws : List (List Key × V)}, KVs K G kvs ws → ws.length = kvs.length
  | [], ws, h => by rw [show ws = [] from h]; rfl
  | (k', d) :: r, ws, ⟨v, s, e, h1, h2⟩ => by subst e; simp [kvs_len h2]
theorem kvs_any {K : PySem.W.Frag} {G : Hp} (k : List PKey) : ∀ {kvs : List (List PKey × D)} {ws : List (List Key × V)}, KVs K G kvs ws → (ws.any fun kv => decide (kv.1 = k)) = kvs.any fun kv => decide (kv.1 = k)
  | [], ws, h => by rw [show ws = [] from h]; rfl
  | (k', d) :: r, ws, ⟨v, s, e, h1, h2⟩ => by subst e; simp [kvs_any k h2]
theorem kvs_map {K : PySem.W.Frag} {G : Hp} (k : List PKey) {d : D} {v : V} (hd : Dat K G d v) : ∀ {kvs : List (List PKey × D)} {ws : List (List Key × V)}, KVs K G kvs ws → KVs K G (kvs.map fun kv => if kv.1 = k then (kv.1, d) else kv) (ws.map fun kv => if kv.1 = k then (kv.1, v) else kv)
  | [], ws, h => by rw [show ws = [] from h]; rfl
  | (k', d') :: r, ws, ⟨v', s, e, h1, h2⟩ => by
    subst e
    by_cases c : k' = k
    · simp only [List.map_cons, c, if_true]
      exact ⟨v, _, rfl, hd, kvs_map k hd h2⟩
    · simp only [List.map_cons, if_neg c]
      exact ⟨v', _, rfl, h1, kvs_map k hd h2⟩
theorem kvs_snoc {K : PySem.W.Frag} {G : Hp} (k : List PKey) {d : D} {v : V} (hd : Dat K G d v) : ∀ {kvs : List (List PKey × D)} {ws : List (List Key × V)}, KVs K G kvs ws → KVs K G (kvs ++ [(k, d)]) (ws ++ [(k, v)])
  | [], ws, h => by rw [show ws = [] from h]; exact ⟨v, [], rfl, hd, rfl⟩
  | (k', d') :: r, ws, ⟨v', s, e, h1, h2⟩ => by subst e; exact ⟨v', _, rfl, h1, kvs_snoc k hd h2⟩
theorem kvs_put {K : PySem.W.Frag} {G : Hp} (k : List PKey) {d : D} {v : V} (hd : Dat K G d v) {kvs : List (List PKey × D)} {ws : List (List Key × V)} (h : KVs K G kvs ws) : KVs K G (kvPut kvs k d) (putK ws k v) := by
  unfold kvPut putK
  rw [kvs_any k h]
  split
  · exact kvs_map k hd h
  · exact kvs_snoc k hd h
theorem key_tup {K : PySem.W.Frag} {G H : Hp} (s : Same G H) {d : D} {v : V} {k : List PKey} (h : d.key = some k) (dv : Dat K G d v) : ∃ b, v = .ref b ∧ H b = some (.tup (k.map kV)) := by
  cases d with
  | tup xs =>
    obtain ⟨ns, e1, rfl⟩ := Option.map_eq_some_iff.mp (show (D.ints xs).map _ = some k from h)
    have e2 := ints_some e1
    subst e2
    obtain ⟨b, vs, rfl, g, r, _⟩ := Dat.tup_iff.mp dv
    refine ⟨b, rfl, ?_⟩
    rw [s _ _ g, r.ints, List.map_map]
    rfl
  | _ => cases h
/-- k in d -/
theorem dt_inD (i : Nat) {py : Pos} (hu : X.A.units + 1 < cLine) (h : DP X W e f) (hN : X.N[i]? = some x := by rfl) (hv : Vis X.env.scope x := by first | exact Or.inl rfl | exact Or.inr (Or.inl rfl) | exact Or.inr (Or.inr rfl)) (hd : (x == ("__debug__" : Str)) = false := by decide)
    (hcd : (x == ("__classdict__" : Str)) = false := by decide) : DT X W (.Compare e [.In] [.Name x py] pos) (tOf (pInD i f)) := by
  obtain ⟨t, p, q⟩ := h.ex
  refine ⟨_, pt_cmp (pc_din hu p (pe_var hN hv hd hcd)), fun ρ σ G H Q R k => q ρ σ G H _ R ?_⟩
  have k' := k
  unfold tOf pInD at k'
  cases ho : f ρ with
  | stuck => rw [ho] at k'; exact k'
  | exc C ns ds => rw [ho] at k'; exact k'
  | ok d =>
    rw [ho] at k'
    intro G1 H1 x1 v dv
    cases hi : ρ[i]? with
    | none => simp only [OP.bind_ok, hi] at k'; exact k'.elim
    | some s =>
      simp only [OP.bind_ok, hi] at k'
      cases s with
      | md kvs =>
        cases hk : d.key with
        | none => simp only [hk] at k'; exact k'.elim
        | some kk =>
          simp only [hk, Option.map_some, OP.of_some, OP.bind_ok] at k'
          obtain ⟨a, ws, ea, h1, h2, h3⟩ := (R.ext x1).sl i _ hi
          obtain ⟨b, rfl, hb⟩ := key_tup x1.sub hk dv
          refine ⟨_, ea, a, _, rfl, .t h1 hb, _, rfl, ?_⟩
          rw [kvs_get kk h3]
          exact k' G1 H1 x1
      | _ => exact k'.elim
/-- d[k] = v -/
theorem ds_putD (i : Nat) {py pos' : Pos} {ev : Expr} (hu : X.A.units + 1 < cLine) (h : DP X W e f) (hv' : DP X W ev f1) (hN : X.N[i]? = some x := by rfl) (hv : Vis X.env.scope x := by first | exact Or.inl rfl | exact Or.inr (Or.inl rfl) | exact Or.inr (Or.inr rfl)) (hd : (x == ("__debug__" : Str)) = false := by decide)
    (hcd : (x == ("__classdict__" : Str)) = false := by decide) (hs : swapsWith ev (some (.Subscript (.Name x py) e pos')) pos.line X.env = pure false := by rfl) : DS X W (.Assign [.Subscript (.Name x py) e pos'] ev pos) (sPutD i f f1) := by
  obtain ⟨t, p, q⟩ := h.ex
  obtain ⟨t1, p1, q1⟩ := hv'.ex
  refine ⟨_, ps_dput hu (pe_var hN hv hd hcd) p p1 hs, fun pn G0 H0 ρ σ G H D R k => q1 ρ σ G H _ R.rs ((QS.op R k).imp fun y G1 H1 _ x1 k1 v dv => ?_)⟩
  have R1 := R.to x1
  cases hi : ρ[i]? with
  | none => rw [hi] at k1; exact k1.elim
  | some s =>
    rw [hi] at k1
    cases s with
    | md kvs =>
      obtain ⟨a, ws, ea, h1, h2, h3⟩ := R1.rs.sl i _ hi
      refine ⟨_, ea, q ρ σ G1 H1 _ R1.rs ((QS.op R1 k1).imp fun dk G2 H2 _ x2 k2 u du => ?_)⟩
      have R2 := R1.to x2
      cases hk : dk.key with
      | none => rw [hk] at k2; exact k2.elim
      | some kk =>
        rw [hk] at k2
        dsimp only at k2
        by_cases hl : kvs.length < line
        · rw [if_pos hl] at k2
          obtain ⟨a', ws', ea', h1', h2', h3'⟩ := R2.rs.sl i _ hi
          rw [ea] at ea'
          cases ea'
          obtain ⟨b, rfl, hb⟩ := key_tup x2.sub hk du
          refine ⟨a, _, rfl, DPut.t h1' hb (by rw [kvs_len h3', ← line_is]; exact hl), ?_⟩
          exact k2 σ G2 _ (R2.write hi trivial trivial ea (fun fs => by rw [h1']; simp) (fun C fs z => by cases z) ⟨a, _, rfl, upd_same, h2', kvs_put kk (dv.mono x2.g) h3'⟩) (Same.refl _)
        · rw [if_neg hl] at k2; exact k2.elim
    | _ => exact k1.elim
end
end Pu
end
section
set_option maxHeartbeats 1000000
/-! Pu, the layer: sorted of a dict whose keys are tuples of ints. -/
namespace Pu
open PySem PySem.Spec L2
open PyProof.Rows hiding St
def intV : V → Option Int
  | .int i => some i
  | _ => none
theorem intV_map : ∀ t : List Int, (t.map V.int).filterMap intV = t
  | [] => rfl
  | i :: r => by
    show (V.int i :: r.map V.int).filterMap intV = _
    rw [List.filterMap_cons]
    show i :: (r.map V.int).filterMap intV = _
    rw [intV_map r]
def kH (H : Hp) (v : V) : List Int := match v with
  | .ref b => (match H b with
    | some (.tup ys) => ys.filterMap intV
    | _ => [])
  | _ => []
theorem kH_is {H : Hp} {b : Addr} {t : List Int} (h : H b = some (.tup (t.map V.int))) : kH H (.ref b) = t := by
  show (match H b with
    | some (.tup ys) => ys.filterMap intV
    | _ => []) = t
  rw [h]
  exact intV_map t
/-- v is the tuple t in the heap -/
def TupAt (H : Hp) (v : V) (t : List Int) : Prop := ∃ b, v = .ref b ∧ H b = some (.tup (t.map V.int)) ∧ t.length ≤ sizeLine
def rSortDT : List V → Hp → VK → Prop := fun xs H Q => ∃ (a : Addr) (kvs : List (List Key × V)) (ts : List (List Int)), xs = [.ref a] ∧ H a = some (.dT kvs) ∧ kvs.map (·.1) = ts.map (fun t => t.map Sum.inl) ∧ (∀ t ∈ ts, t ≠ []) ∧
  ∀ p vs, H p = none → vs.length = ts.length → vs.length ≤ sizeLine → vs.map (kH H) = srt lexI ts → (∀ v ∈ vs, TupAt H v (kH H v)) → Q (.ref p) (upd H p (.lst vs))
section
variable {X : Cx}
theorem keys_tups {H : Hp} : ∀ {kvs : List (List Key × V)} {xs : List (List Key × Addr × Value)} {ts : List (List Int)}, Paired (fun (p : List Key × V) (q : List Key × Addr × Value) => p.1 = q.1 ∧ H q.2.1 = some (.tup (p.1.map kV)) ∧ RelV p.2 q.2.2) kvs xs → kvs.map (·.1) = ts.map (fun t => t.map Sum.inl) →
    (xs.map fun x => kH H (.ref x.2.1)) = ts ∧ ∀ x ∈ xs, H x.2.1 = some (.tup ((kH H (.ref x.2.1)).map V.int)) ∧ kH H (.ref x.2.1) ∈ ts
  | _, _, ts, .nil, e => by
    cases ts with
    | nil => exact ⟨rfl, fun x hx => by cases hx⟩
    | cons t ts => cases e
  | _, _, ts, .cons h r, e => by
    cases ts with
    | nil => cases e
    | cons t ts =>
      rw [List.map_cons, List.map_cons] at e
      injection e with e1 e2
      obtain ⟨a, b⟩ := keys_tups r e2
      have h2 := h.2.1
      rw [e1] at h2
      have h3 : (t.map Sum.inl).map kV = t.map V.int := by rw [List.map_map]; rfl
      rw [h3] at h2
      have e3 := kH_is h2
      refine ⟨by rw [List.map_cons, a, e3], fun x hx => ?_⟩
      rcases List.mem_cons.mp hx with rfl | hx
      · rw [e3]; exact ⟨h2, List.mem_cons_self⟩
      · exact ⟨(b x hx).1, List.mem_cons_of_mem _ (b x hx).2⟩
theorem cr_sortDT (hcalm : X.calm = true) : CallR X (.builtin "sorted") rSortDT := by
  intro pins s σ H xs us Q I r h
  obtain ⟨d, kvs, ts, rfl, hd, hk, ne, q⟩ := h
  rw [Vals.ref1 r]
  obtain ⟨z, hs, ks, pr, o, es, ep, ho, hx, hdt, he, hn⟩ := (show ObjOk X.prog X.w H s.heap d (.dT kvs) from I.hok d _ hd)
  obtain ⟨e1, e2⟩ := keys_tups pr hk
  have l1 : es.size = ks.length := size_of_entries he
  have l2 : kvs.length = ks.length := Paired.length pr
  have hz' : (ks.map fun x => Value.ref x.2.1).length ≤ sizeLine := by rw [List.length_map]; omega
  have S : Src X.prog X.w X.A.in1 s (.ref d) (ks.map fun x => Value.ref x.2.1) := fun Q' E' hq => by
    refine PySem.W.kdu_collect (kdl_raw hs hx hdt) (by simpa using I.ok.hd hcalm) ho (by omega) fun h' tk acc' kp it => ?_
    have ea : acc'.toList = ks.map fun x => Value.ref x.2.1 := by
      have hl : acc'.toList.length = ks.length := by rw [Array.length_toList, it.1]; exact l1
      apply List.ext_getElem?
      intro j
      rw [List.getElem?_map]
      cases hj : acc'.toList[j]? with
      | none =>
        have h1 := List.getElem?_eq_none_iff.mp hj
        rw [List.getElem?_eq_none (by omega)]
        all_goals rfl
      | some v =>
        obtain ⟨en, hen, hv⟩ := it.2 j v (by rw [← Array.getElem?_toList]; exact hj)
        have qe := entry_at he j
        rw [hen] at qe
        cases hb : ks[j]? with
        | none =>
          rw [hb] at qe
          exact nomatch (show some en = none from qe)
        | some b =>
          rw [hb] at qe
          have e2 : en = entryOfKey (tupleKind (mixKind X.prog X.w)) b := Option.some.inj qe
          rw [hv, e2]
          all_goals rfl
    rw [ea]
    exact hq _ _ kp
  have tups : ∀ u ∈ ks.map (fun x => Value.ref x.2.1), TS.TupInts s.heap u (kH H (bkV u)) ∧ kH H (bkV u) ≠ [] := fun u hu => by
    obtain ⟨x, hx, rfl⟩ := List.mem_map.mp hu
    obtain ⟨h1, h2⟩ := e2 x hx
    obtain ⟨its', rv', pt, _⟩ := I.tuple (SqT.of h1)
    exact ⟨⟨x.2.1, its'.toArray, rfl, pt, (by simpa using rv'.ints : IntsAre its'.toArray.toList (kH H (.ref x.2.1)))⟩, ne _ h2⟩
  have rv : Vals (ks.map fun x => V.ref x.2.1) (ks.map fun x => Value.ref x.2.1) := by
    have := vals_refs (ks.map fun x => x.2.1)
    rw [List.map_map, List.map_map] at this
    exact this
  refine sorted_src (ltv := fun v u => lexI (kH H (bkV v)) (kH H (bkV u))) (swoK fun u => kH H (bkV u)) S hz' (fun h2 s1 a ha keep => ?_) fun h1 h' tk b out hs hb k1 k2 hd ⟨n, ho⟩ => ?_
  · refine tups_sortableO (k := fun u => kH H (bkV u)) (by omega) (fun v hv => ⟨(tups v hv).1.keeps fun b o q _ => (keep b o q).2, (tups v hv).2⟩) fun o ho => ?_
    rw [ha] at ho
    cases ho
    show Value.type "list" ≠ Value.type "tuple"
    simp
  · have I1 : Inv X pins σ H { s with heap := h1, toks := s.toks } := I.kept k1
    have hn : H b = none := I1.hok.fresh hd
    obtain ⟨vs', pv, ro⟩ := vals_perm rv hb.perm
    have refs : ∀ v ∈ (ks.map fun x => V.ref x.2.1), ∃ a, v = V.ref a := fun v hv => by
      obtain ⟨x, _, rfl⟩ := List.mem_map.mp hv
      exact ⟨_, rfl⟩
    have e3 : vs' = out.map bkV := bk_vals ro fun v hv => refs v (pv.mem_iff.mp hv)
    have hlen : vs'.length ≤ sizeLine := by rw [pv.length_eq, List.length_map]; omega
    have hk1 : vs'.map (kH H) = srt lexI ts := by
      refine srt_uniq lexI_tot ?_ ?_
      · rw [e3, List.map_map]
        exact List.pairwise_map.mpr hs
      · have := pv.map (kH H)
        rw [List.map_map] at this
        rw [← e1]
        exact this
    refine ⟨.ref b, upd H b (.lst vs'), I1.laid (t' := tk) (fun b o q => k2 _ _ q) hd ⟨hlen, out, n, ro, ho⟩, rfl, q b vs' hn ?_ hlen hk1 fun v hv => ?_⟩
    · have := congrArg List.length hk1
      rw [List.length_map, (srt_perm ts).length_eq] at this
      exact this
    · obtain ⟨x, hx, rfl⟩ := List.mem_map.mp (pv.mem_iff.mp hv)
      obtain ⟨_, _, _, h5⟩ := I.tuple (SqT.of (e2 x hx).1)
      rw [List.length_map] at h5
      exact ⟨x.2.1, rfl, (e2 x hx).1, h5⟩
end
/-- all tuples stand still -/
def allT (G H : Hp) : Hp := fun a => match G a with
  | some u => some u
  | none => (match H a with
    | some (.tup vs) => some (.tup vs)
    | _ => none)
theorem ext_allT {G H : Hp} (s : Same G H) : Ext G H (allT G H) H := by
  refine ⟨fun a o e => ?_, Same.refl _, fun a o e => ?_, fun a h => ?_⟩
  · unfold allT; rw [e]
  · unfold allT at e
    cases g : G a with
    | some u => rw [g] at e; cases e; exact s _ _ g
    | none =>
      rw [g] at e
      dsimp only at e
      cases hh : H a with
      | none => rw [hh] at e; cases e
      | some u =>
        rw [hh] at e
        cases u <;> first | (cases e; rfl) | cases e
  · unfold allT at h
    cases g : G a with
    | some u => exact .inl (by simp)
    | none =>
      rw [g] at h
      dsimp only at h
      cases hh : H a with
      | none => rw [hh] at h; exact absurd rfl h
      | some u =>
        rw [hh] at h
        refine .inr (.inr ?_)
        cases u with
        | tup vs => exact ⟨vs, rfl⟩
        | _ => exact absurd rfl h
theorem allT_tup {G H : Hp} (s : Same G H) {a : Addr} {vs : List V} (h : H a = some (.tup vs)) : allT G H a = some (.tup vs) := by
  unfold allT
  cases g : G a with
  | some u =>
    have := s _ _ g
    rw [h] at this
    cases this
    rfl
  | none => dsimp only; rw [h]
section
variable {X : Cx} {W : WX} {pos : Pos} {x y : Str} {p : Pos}
/-- sorted(d) -/
theorem df_sortD (i : Nat) {py : Pos} (hc : X.calm = true) (hm : X.mg "sorted" = none) (hN : X.N[i]? = some x := by rfl) (hv : Vis X.env.scope x := by first | exact Or.inl rfl | exact Or.inr (Or.inl rfl) | exact Or.inr (Or.inr rfl)) (hd : (x == ("__debug__" : Str)) = false := by decide)
    (hcd : (x == ("__classdict__" : Str)) = false := by decide) (hg : Gl X "sorted" := by rfl)
    (na : starEach [.Name x py] X.env = (false, eval (.Name x py) X.env) :: starEach [] X.env := by rfl) (hpl : (backTo pos (starEach [] X.env)).any (·.1) = false := by rfl) : DF X W (.Call (.Name "sorted" p) [.Name x py] [] pos) (fSortD i) := by
  refine ⟨_, pe_callB (cr_sortDT hc) hg hm (by decide +kernel) (pa_cons (pe_var hN hv hd hcd) pa_nil na) (he := na) (hpl := hpl), fun ρ σ G H Q R k => ?_⟩
  unfold fSortD at k
  cases hi : ρ[i]? with
  | none => rw [hi] at k; exact k.elim
  | some s =>
    cases s with
    | md kvs =>
      rw [hi] at k
      dsimp only at k
      obtain ⟨a, ws, ea, h1, h2, h3⟩ := R.sl i _ hi
      cases hk : keysI kvs with
      | none => rw [hk] at k; exact k.elim
      | some ts =>
        rw [hk] at k
        have k' : ∀ G' H', Ext G H G' H' → ∀ p vs, H p = none → G' p = none → H' p = some (.lst vs) → Dats X.K G' ((srt lexI ts).map dTI) vs → ((srt lexI ts).map dTI).length ≤ line → Q (.ref p) H' := k
        obtain ⟨e1, ne⟩ := keysI_some hk
        have e2 : ws.map (·.1) = kvs.map (·.1) := by
          clear k k' e1 hk hi h1 ea
          induction kvs generalizing ws with
          | nil => rw [show ws = [] from h3]; rfl
          | cons q r ih =>
            obtain ⟨v, s, e, _, h4⟩ := h3
            subst e
            rw [List.map_cons, List.map_cons, ih s h4]
        refine ⟨_, ea, a, ws, ts, rfl, h1, by rw [e2, e1], ne, fun q vs nq hl hz hm ht => ?_⟩
        have x1 := ext_allT R.sub
        have gq : allT G H q = none := x1.sub.free nq
        have hdat : ∀ vs : List V, (∀ v ∈ vs, TupAt H v (kH H v)) → Dats X.K (allT G H) ((vs.map (kH H)).map dTI) vs := by
          intro vs
          induction vs with
          | nil => exact fun _ => .nil
          | cons v r ih =>
            intro h
            refine .cons ?_ (ih fun w hw => h w (List.mem_cons_of_mem _ hw))
            obtain ⟨b, e, hb, hl⟩ := h v List.mem_cons_self
            exact Dat.tup_iff.mpr ⟨b, _, e, allT_tup R.sub hb, Dats.of_ints _, by rw [List.length_map, line_is]; exact hl⟩
        have hd2 := hdat vs ht
        rw [hm] at hd2
        refine k' _ _ (x1.trans (.own x1.sub nq)) q vs nq gq upd_same hd2 ?_
        rw [← hm, List.length_map, List.length_map, line_is]
        exact hz
    | _ => rw [hi] at k; exact k.elim
end
end Pu
end
section
/-! Pu: small things for the printed derivations. -/
namespace Pu
open PySem PySem.Spec L2
open PyProof.Rows hiding St
theorem U {k : Nat} {A : Around} (r : Room k A) : A.units + 64 < cLine := r.units
theorem U1 {k : Nat} {A : Around} (r : Room k A) : A.units + 65 < cLine := by have := r.un; omega
theorem U2 {k : Nat} {A : Around} (r : Room k A) : A.units + 1 < cLine := by have := r.un; omega
theorem pArgs_len : ∀ {as : List PE'} {ρ : Rho} {ds : List D}, pArgs as ρ = .ok ds → ds.length = as.length
  | [], ρ, ds, h => by cases h; rfl
  | a :: r, ρ, ds, h => by
    have h' : ((a ρ).bind fun x => (pArgs r ρ).bind fun xs => .ok (x :: xs)) = .ok ds := h
    cases ha : a ρ with
    | stuck => rw [ha] at h'; cases h'
    | exc C ns vs => rw [ha] at h'; cases h'
    | ok x =>
      rw [ha] at h'
      cases hr : pArgs r ρ with
      | stuck => simp only [hr, OP.bind_ok, OP.bind_stuck] at h'; cases h'
      | exc C ns vs => simp only [hr, OP.bind_ok, OP.bind_exc] at h'; cases h'
      | ok xs =>
        simp only [hr, OP.bind_ok] at h'
        cases h'
        show xs.length + 1 = r.length + 1
        rw [pArgs_len hr]
section
variable {X : Cx} {W : WX} {e : Expr} {f : PE'} {pos : Pos} {r : List Stmt}
theorem dss_no : DSs X W r sNo := ⟨fun _ _ _ => False, ⟨fun _ _ _ _ _ _ h => h.elim⟩, fun pn G0 H0 ρ σ G H D R h => h.elim⟩
end
end Pu
end
section
/-! Pu: reckoning with the functions on slots. -/
namespace Pu
open PySem
/-! Unfolding by equations that are not definitional for simp: the kernel then never has to reckon with the guards (2 ^ 62 and the like). -/
theorem pV0 (d : D) (r : Rho) : pV 0 (.im d :: r) = .ok d := of_eq_true (eq_self _)
theorem pB0 (d : D) (r : Rho) : pB 0 (.im d :: r) = .ok d := of_eq_true (eq_self _)
theorem pB0m (xs : List D) (r : Rho) : pB 0 (.ml xs :: r) = .ok (.lst xs) := of_eq_true (eq_self _)
theorem pVs (i : Nat) (s : S) (r : Rho) : pV (i + 1) (s :: r) = pV i r := by unfold pV; rw [List.getElem?_cons_succ]
theorem pBs (i : Nat) (s : S) (r : Rho) : pB (i + 1) (s :: r) = pB i r := by unfold pB; rw [List.getElem?_cons_succ]
theorem k_bind {α β : Type} (a : α) (k : α → OP β) : (OP.ok a).bind k = k a := of_eq_true (eq_self _)
theorem k_of {α : Type} (a : α) : OP.of (some a) = .ok a := of_eq_true (eq_self _)
theorem k_opS {α : Type} (a : α) (ρ : Rho) (k : α → OS) : opS (.ok a) ρ k = k a := of_eq_true (eq_self _)
theorem k_pC (d : D) (ρ : Rho) : pC d ρ = .ok d := of_eq_true (eq_self _)
theorem k_p1 (f : D → Option D) (a : PE') (ρ : Rho) : p1 f a ρ = (a ρ).bind fun x => .of (f x) := of_eq_true (eq_self _)
theorem k_p2 (f : D → D → Option D) (a b : PE') (ρ : Rho) : p2 f a b ρ = (a ρ).bind fun x => (b ρ).bind fun y => .of (f x y) := of_eq_true (eq_self _)
theorem k_pN (f : List D → Option D) (as : List PE') (ρ : Rho) : pN f as ρ = (pArgs as ρ).bind fun xs => .of (f xs) := of_eq_true (eq_self _)
theorem k_fN (f : List D → Option (List D)) (as : List PE') (ρ : Rho) : fN f as ρ = (pArgs as ρ).bind fun xs => .of (f xs) := of_eq_true (eq_self _)
theorem k_args0 (ρ : Rho) : pArgs [] ρ = .ok [] := of_eq_true (eq_self _)
theorem k_args (a : PE') (r : List PE') (ρ : Rho) : pArgs (a :: r) ρ = (a ρ).bind fun x => (pArgs r ρ).bind fun xs => .ok (x :: xs) := of_eq_true (eq_self _)
theorem k_pOfF (f : PF') (ρ : Rho) : pOfF f ρ = (f ρ).bind fun xs => .ok (.lst xs) := of_eq_true (eq_self _)
theorem k_sAsg (i : Nat) (e : PE') (ρ : Rho) : sAsg (gN i) e ρ = opS (e ρ) ρ fun d => .nx (ρ.set i (.im d)) := of_eq_true (eq_self _)
theorem k_sAsgF (i : Nat) (e : PF') (ρ : Rho) : sAsgF i e ρ = opS (e ρ) ρ fun xs => .nx (ρ.set i (.ml xs)) := of_eq_true (eq_self _)
theorem k_sRet (e : PE') (ρ : Rho) : sRet e ρ = opS (e ρ) ρ fun d => .ret (.val d) := of_eq_true (eq_self _)
theorem k_sRetF (e : PF') (ρ : Rho) : sRetF e ρ = opS (e ρ) ρ fun xs => .ret (.fresh xs) := of_eq_true (eq_self _)
theorem k_sNx (ρ : Rho) : sNx ρ = .nx ρ := of_eq_true (eq_self _)
def OP.bl : OP D → OP Bool := fun o => o.bind fun x => match x with
  | .bl b => .ok b
  | _ => .stuck
theorem k_tOf (a : PE') (ρ : Rho) : tOf a ρ = OP.bl (a ρ) := of_eq_true (eq_self _)
theorem k_bl (b : Bool) : OP.bl (.ok (.bl b)) = .ok b := of_eq_true (eq_self _)
theorem k_tNot (t : PT') (ρ : Rho) : tNot t ρ = (t ρ).bind fun x => .ok (!x) := of_eq_true (eq_self _)
theorem k_iRg (as : List PE') (ρ : Rho) : iRg as ρ = fN oRange as ρ := of_eq_true (eq_self _)
theorem k_iSq (a : PE') (ρ : Rho) : iSq a ρ = (a ρ).bind fun x => .of x.seq? := of_eq_true (eq_self _)
theorem k_lst (xs : List D) : (D.lst xs).seq? = some xs := of_eq_true (eq_self _)
theorem k_tup (xs : List D) : (D.tup xs).seq? = some xs := of_eq_true (eq_self _)
theorem k_tux (xs : List D) : (D.tux xs).seq? = some xs := of_eq_true (eq_self _)
theorem k_pCall (F : List D → OF) (as : List PE') (ρ : Rho) : pCall F as ρ = (pArgs as ρ).bind fun xs => (F xs).val := of_eq_true (eq_self _)
theorem k_fCall (F : List D → OF) (as : List PE') (ρ : Rho) : fCall F as ρ = (pArgs as ρ).bind fun xs => (F xs).new := of_eq_true (eq_self _)
theorem k_valv (d : D) : (OF.ret (.val d)).val = .ok d := of_eq_true (eq_self _)
theorem k_valf (xs : List D) : (OF.ret (.fresh xs)).val = .ok (.lst xs) := of_eq_true (eq_self _)
theorem k_newf (xs : List D) : (OF.ret (.fresh xs)).new = .ok xs := of_eq_true (eq_self _)
theorem k_fn (r : RV) : (OS.ret r).fn = .ret r := of_eq_true (eq_self _)
theorem k_add (i j : Int) : oAdd (.int i) (.int j) = some (.int (i + j)) := of_eq_true (eq_self _)
theorem k_sub (i j : Int) : oSub (.int i) (.int j) = some (.int (i - j)) := of_eq_true (eq_self _)
theorem k_lt (i j : Int) : oLt (.int i) (.int j) = some (.bl (decide (i < j))) := of_eq_true (eq_self _)
theorem k_le (i j : Int) : oLe (.int i) (.int j) = some (.bl (decide (i ≤ j))) := of_eq_true (eq_self _)
theorem k_gt (i j : Int) : oGt (.int i) (.int j) = some (.bl (decide (j < i))) := of_eq_true (eq_self _)
theorem k_ge (i j : Int) : oGe (.int i) (.int j) = some (.bl (decide (j ≤ i))) := of_eq_true (eq_self _)
theorem k_int1 (i : Int) : oInt1 [.int i] = some (.int i) := of_eq_true (eq_self _)
theorem k_abs (i : Int) : oAbs [.int i] = some (.int (if i < 0 then -i else i)) := of_eq_true (eq_self _)
theorem k_lens (ns : List Int) : oLen [.scr ns] = some (.int ns.length) := of_eq_true (eq_self _)
theorem k_lenl (ns : List D) : oLen [.lst ns] = some (.int ns.length) := of_eq_true (eq_self _)
theorem k_lent (ns : List D) : oLen [.tup ns] = some (.int ns.length) := of_eq_true (eq_self _)
theorem k_lenx (ns : List D) : oLen [.tux ns] = some (.int ns.length) := of_eq_true (eq_self _)
theorem k_set0 (s t : S) (r : Rho) : (s :: r).set 0 t = t :: r := of_eq_true (eq_self _)
theorem k_sets (i : Nat) (s t : S) (r : Rho) : (s :: r).set (i + 1) t = s :: r.set i t := of_eq_true (eq_self _)
theorem k_nTup (as : List PE') (ρ : Rho) {ds : List D} (h : pArgs as ρ = .ok ds) (l : ds.length ≤ line) : nTup as ρ = .ok (.tup ds) := by
  unfold nTup; rw [k_pN, h, k_bind, if_pos l, k_of]
theorem k_nLst (as : List PE') (ρ : Rho) {ds : List D} (h : pArgs as ρ = .ok ds) (l : ds.length ≤ line) : nLst as ρ = .ok ds := by
  unfold nLst; rw [k_fN, h, k_bind, if_pos l, k_of]
theorem k_nil (ρ : Rho) : nLst [] ρ = .ok [] := k_nLst [] ρ (k_args0 ρ) (Nat.zero_le _)
theorem sSeq_nx {a b : SS} {ρ ρ' : Rho} (h : a ρ = .nx ρ') : sSeq a b ρ = b ρ' := by unfold sSeq; rw [h]
theorem sSeq_ret {a b : SS} {ρ : Rho} {r : RV} (h : a ρ = .ret r) : sSeq a b ρ = .ret r := by unfold sSeq; rw [h]
theorem sIf_t {t : PT'} {a b : SS} {ρ : Rho} (h : t ρ = .ok true) : sIf t a b ρ = a ρ := by unfold sIf; rw [h]
theorem sIf_f {t : PT'} {a b : SS} {ρ : Rho} (h : t ρ = .ok false) : sIf t a b ρ = b ρ := by unfold sIf; rw [h]
theorem runF_eq {n m : Nat} {s : SS} {ds : List D} (h : ds.length = m) : runF n m s ds = (s (startR n ds)).fn := by unfold runF; rw [if_pos h]
/-- a comprehension -/
theorem compL_ok {α : Type} {f : D → OP (Option D)} (enc : α → D) (p : α → Bool) (en : α → D) : ∀ (xs : List α), (∀ x ∈ xs, f (enc x) = .ok (if p x then some (en x) else none)) → compL f (xs.map enc) = .ok ((xs.filter p).map en)
  | [], _ => rfl
  | x :: r, h => by
    rw [List.map_cons]
    show ((f (enc x)).bind fun o => (compL f (r.map enc)).bind fun l => .ok (match o with
      | none => l
      | some y => y :: l)) = _
    rw [h x List.mem_cons_self, compL_ok enc p en r fun y hy => h y (List.mem_cons_of_mem _ hy)]
    by_cases c : p x = true
    · rw [if_pos c, List.filter_cons_of_pos c]; rfl
    · rw [if_neg c, List.filter_cons_of_neg c]; rfl
theorem fComp_ok {α : Type} (enc : α → D) (p : α → Bool) (en : α → D) (xs : List α) {own : List Nat} {g : TG'} {it : PF'} {t : PT'} {e : PE'} {ρ : Rho} (hi : it ρ = .ok (xs.map enc))
    (h : ∀ x ∈ xs, ∃ ρ', g (enc x) (wipeR ρ own) = some ρ' ∧ t ρ' = .ok (p x) ∧ (p x = true → e ρ' = .ok (en x))) : fComp own g it t e ρ = .ok ((xs.filter p).map en) := by
  unfold fComp
  rw [hi]
  show noExc (compL _ (xs.map enc)) = _
  rw [compL_ok enc p en xs fun x hx => ?_]
  · rfl
  · obtain ⟨ρ', h1, h2, h3⟩ := h x hx
    rw [h1]
    show ((t ρ').bind fun b => if b then (e ρ').bind fun y => .ok (some y) else .ok none) = _
    rw [h2]
    show (if p x then (e ρ').bind fun y => .ok (some y) else .ok none) = _
    by_cases c : p x = true
    · rw [if_pos c, if_pos c, h3 c]; rfl
    · rw [if_neg c, if_neg c]
theorem filter_tt {α : Type} (xs : List α) : xs.filter (fun _ => true) = xs := List.filter_eq_self.mpr fun _ _ => rfl
/-- .. without a test -/
theorem fComp_all {α : Type} (enc : α → D) (en : α → D) (xs : List α) {own : List Nat} {g : TG'} {it : PF'} {e : PE'} {ρ : Rho} (hi : it ρ = .ok (xs.map enc))
    (h : ∀ x ∈ xs, ∃ ρ', g (enc x) (wipeR ρ own) = some ρ' ∧ e ρ' = .ok (en x)) : fComp own g it tYes e ρ = .ok (xs.map en) := by
  have := fComp_ok (p := fun _ => true) enc en (t := tYes) xs hi fun x hx => let ⟨ρ', a, b⟩ := h x hx; ⟨ρ', a, rfl, fun _ => b⟩
  rwa [filter_tt] at this
/-- a loop, by an invariant of what is done -/
theorem loop_go {α : Type} (enc : α → D) {g : TG'} {b : SS} (I : List α → Rho → Prop) (xs : List α) (h : ∀ pre x post ρ, xs = pre ++ x :: post → I pre ρ → ∃ ρ1 ρ2, g (enc x) ρ = some ρ1 ∧ b ρ1 = .nx ρ2 ∧ I (pre ++ [x]) ρ2) :
    ∀ (post pre : List α) (ρ : Rho), xs = pre ++ post → I pre ρ → ∃ ρ', loop g b (post.map enc) ρ = .nx ρ' ∧ I xs ρ'
  | [], pre, ρ, e, hI => ⟨ρ, rfl, by rw [e, List.append_nil]; exact hI⟩
  | x :: r, pre, ρ, e, hI => by
    obtain ⟨ρ1, ρ2, h1, h2, h3⟩ := h pre x r ρ e hI
    obtain ⟨ρ', h4, h5⟩ := loop_go enc I xs h r (pre ++ [x]) ρ2 (by rw [e, List.append_assoc]; rfl) h3
    refine ⟨ρ', ?_, h5⟩
    rw [List.map_cons]
    unfold loop
    rw [h1]
    dsimp only
    rw [h2]
    exact h4
theorem loop_inv {α : Type} (enc : α → D) {g : TG'} {b : SS} (I : List α → Rho → Prop) (xs : List α) {ρ : Rho} (h0 : I [] ρ)
    (h : ∀ pre x post ρ, xs = pre ++ x :: post → I pre ρ → ∃ ρ1 ρ2, g (enc x) ρ = some ρ1 ∧ b ρ1 = .nx ρ2 ∧ I (pre ++ [x]) ρ2) : ∃ ρ', loop g b (xs.map enc) ρ = .nx ρ' ∧ I xs ρ' :=
  loop_go enc I xs h xs [] ρ rfl h0
theorem sFor_inv {α : Type} (enc : α → D) {g : TG'} {b : SS} {it : PF'} (I : List α → Rho → Prop) (xs : List α) {ρ : Rho} (hi : it ρ = .ok (xs.map enc)) (h0 : I [] ρ)
    (h : ∀ pre x post ρ, xs = pre ++ x :: post → I pre ρ → ∃ ρ1 ρ2, g (enc x) ρ = some ρ1 ∧ b ρ1 = .nx ρ2 ∧ I (pre ++ [x]) ρ2) : ∃ ρ', sFor g it b ρ = .nx ρ' ∧ I xs ρ' := by
  obtain ⟨ρ', h1, h2⟩ := loop_inv enc I xs h0 h
  refine ⟨ρ', ?_, h2⟩
  unfold sFor
  rw [hi]
  exact h1
/-! ### ints 0 .. n - 1 -/
def intR (n : Nat) : List Int := (List.range n).map fun i : Nat => (i : Int)
def intF (a : Int) (n : Nat) : List Int := (List.range n).map fun i : Nat => a + (i : Int)
theorem rng_is (a : Int) (n : Nat) : rng a n = (intF a n).map D.int := by unfold rng intF; rw [List.map_map]; rfl
theorem intF0 (n : Nat) : intF 0 n = intR n := by unfold intF intR; exact List.map_congr_left fun i _ => Int.zero_add _
theorem rng0 (n : Nat) : rng 0 n = (intR n).map D.int := by rw [rng_is, intF0]
theorem mem_intR {n : Nat} {i : Int} : i ∈ intR n ↔ 0 ≤ i ∧ i < n := by
  unfold intR
  rw [List.mem_map]
  constructor
  · rintro ⟨k, hk, rfl⟩
    have := List.mem_range.mp hk
    omega
  · intro h
    exact ⟨i.toNat, List.mem_range.mpr (by omega), by omega⟩
theorem intR_len (n : Nat) : (intR n).length = n := by unfold intR; rw [List.length_map, List.length_range]
theorem intF_len (a : Int) (n : Nat) : (intF a n).length = n := by unfold intF; rw [List.length_map, List.length_range]
theorem intR_nodup (n : Nat) : (intR n).Nodup := by
  unfold intR
  exact List.Pairwise.map _ (fun a b h => by omega) (List.nodup_range (n := n))
theorem intR_lt (n : Nat) : (intR n).Pairwise (· < ·) := by
  unfold intR
  exact List.Pairwise.map _ (fun a b h => by omega) (List.pairwise_lt_range (n := n))
theorem intR_get {n i : Nat} (h : i < n) : (intR n)[i]? = some (i : Int) := by
  unfold intR
  rw [List.getElem?_map, List.getElem?_range h]; rfl
theorem sAppE_eq {i : Nat} {q : QE'} {ρ ρ1 : Rho} {zs xs : List D} {x : D} (h1 : ρ[i]? = some (.ml zs)) (h2 : q ρ = .ok (x, ρ1)) (h3 : ρ1[i]? = some (.ml xs)) (h4 : xs.length < line) : sAppE i q ρ = .nx (ρ1.set i (.ml (xs ++ [x]))) := by
  unfold sAppE
  rw [h1, h2]
  simp only [opS_ok, h3, if_pos h4]
theorem sApp_eq {i : Nat} {e : PE'} {ρ : Rho} {xs : List D} {d : D} (h1 : ρ[i]? = some (.ml xs)) (h2 : e ρ = .ok d) (h4 : xs.length < line) : sApp i e ρ = .nx (ρ.set i (.ml (xs ++ [d]))) := by
  unfold sApp
  rw [h1, h2]
  simp only [opS_ok, if_pos h4]
theorem ePopAt_eq {j : Nat} {a : PE'} {ρ : Rho} {xs : List D} {i : Int} {x : D} (h : ρ[j]? = some (.ml xs)) (ha : a ρ = .ok (.int i)) (h0 : 0 ≤ i) (h1 : i < xs.length) (hs : xs.length ≤ line) (hx : xs[i.toNat]? = some x) : ePopAt j a ρ = .ok (x, ρ.set j (.ml (xs.eraseIdx i.toNat))) := by
  unfold ePopAt
  rw [h, ha]
  have hl : line = 16777216 := rfl
  have e : ixP xs.length i = some i.toNat := by unfold ixP; rw [if_pos h0, if_pos h1]
  simp only [OP.bind_ok]
  rw [if_pos (by omega)]
  simp only [e, hx]
theorem oRange1 {n : Nat} (h : n ≤ line) : oRange [.int (n : Int)] = some ((intR n).map D.int) := by
  have hl : line = 16777216 := rfl
  show (if okR (n : Int) && decide ((n : Int).toNat ≤ line) then some (rng 0 (n : Int).toNat) else none) = _
  have e : okR (n : Int) = true := decide_eq_true (by omega)
  rw [if_pos (by rw [e]; exact decide_eq_true (by omega)), Int.toNat_natCast, rng0]
theorem oRange2 {a b : Nat} (ha : a ≤ line) (h : b ≤ line) : oRange [.int (a : Int), .int (b : Int)] = some ((intF a (b - a)).map D.int) := by
  have hl : line = 16777216 := rfl
  · show (if okR (a : Int) && okR (b : Int) && decide (((b : Int) - a).toNat ≤ line) then some (rng a ((b : Int) - a).toNat) else none) = _
    have e : okR (a : Int) = true := decide_eq_true (by omega)
    have e2 : okR (b : Int) = true := decide_eq_true (by omega)
    rw [if_pos (by rw [e, e2]; exact decide_eq_true (by omega)), rng_is, show ((b : Int) - a).toNat = b - a by omega]
/-- the items of a walk over 0 .. n - 1 -/
theorem intR_split {n : Nat} {pre post : List Int} {x : Int} (e : intR n = pre ++ x :: post) : x = (pre.length : Int) ∧ pre.length < n := by
  have hl := congrArg List.length e
  rw [intR_len, List.length_append, List.length_cons] at hl
  have hlt : pre.length < n := by omega
  have := intR_get hlt
  rw [e, List.getElem?_append_right (Nat.le_refl _), Nat.sub_self, List.getElem?_cons_zero] at this
  exact ⟨Option.some.inj this, hlt⟩
theorem eraseIdx_map {α β : Type} (f : α → β) : ∀ (l : List α) (i : Nat), (l.map f).eraseIdx i = (l.eraseIdx i).map f
  | [], i => rfl
  | x :: r, 0 => rfl
  | x :: r, i + 1 => by
    show f x :: (r.map f).eraseIdx i = f x :: (r.eraseIdx i).map f
    rw [eraseIdx_map f r i]
theorem erase_perm {α : Type} : ∀ {l : List α} {i : Nat} {y : α}, l[i]? = some y → (y :: l.eraseIdx i).Perm l
  | [], i, y, h => by simp at h
  | x :: r, 0, y, h => by
    rw [List.getElem?_cons_zero] at h
    cases h
    exact .refl _
  | x :: r, i + 1, y, h => by
    rw [List.getElem?_cons_succ] at h
    exact (List.Perm.swap x y _).trans ((erase_perm h).cons x)
/-! ### more reckoning -/
def lI (t : List Int) : D := .lst (t.map .int)
def tI (t : List Int) : D := .tup (t.map .int)
def xI (t : List Int) : D := .tux (t.map .int)
theorem ix_l {xs : List D} {k : Nat} {d : D} (h : xs[k]? = some d) : oIx (.lst xs) (.int (k : Int)) = some d := atD_nat h
theorem ix_t {xs : List D} {k : Nat} {d : D} (h : xs[k]? = some d) : oIx (.tup xs) (.int (k : Int)) = some d := atD_nat h
theorem ix_x {xs : List D} {k : Nat} {d : D} (h : xs[k]? = some d) : oIx (.tux xs) (.int (k : Int)) = some d := atD_nat h
theorem k_fCat {a b : PE'} {ρ : Rho} {xs ys : List D} (h1 : a ρ = .ok (.lst xs)) (h2 : b ρ = .ok (.lst ys)) (l : xs.length + ys.length ≤ line) : fCat a b ρ = .ok (xs ++ ys) := by
  have e : fCat a b ρ = (a ρ).bind fun x => (b ρ).bind fun y => .of (oCatL [x, y]) := of_eq_true (eq_self _)
  have e2 : oCatL [.lst xs, .lst ys] = if xs.length + ys.length ≤ line then some (xs ++ ys) else none := of_eq_true (eq_self _)
  rw [e, h1, k_bind, h2, k_bind, e2, if_pos l, k_of]
theorem wipe1 (ρ : Rho) (v : Nat) : wipeR ρ [v] = ρ.set v .no := rfl
theorem k_pMt {isT : D → Bool} {a b : PE'} {ρ : Rho} {d y z : D} (h1 : a ρ = .ok d) (ht : isT d = true) (h2 : b ρ = .ok y) (h3 : oIdx d y = some z) : pMt isT oIdx a b ρ = .ok z := by
  unfold pMt
  rw [h1, k_bind, if_pos ht, h2, k_bind, h3, k_of]
theorem idx_is {ns : List Int} {i : Int} (h : i ∈ ns) : idxD (ns.map .int) (.int i) = some (.int (ns.idxOf i)) := by
  show (D.ints (ns.map .int)).bind _ = _
  rw [ints_map]
  show (if i ∈ ns then _ else _) = _
  rw [if_pos h]
theorem idx_l {ns : List Int} {i : Int} (h : i ∈ ns) : oIdx (lI ns) (.int i) = some (.int (ns.idxOf i)) := idx_is h
theorem idx_x {ns : List Int} {i : Int} (h : i ∈ ns) : oIdx (xI ns) (.int i) = some (.int (ns.idxOf i)) := idx_is h
theorem sorted_l {ns : List Int} : oSorted [lI ns] = some ((srt ltI ns).map .int) := sortD_ints ns
theorem sorted_t {ns : List Int} : oSorted [tI ns] = some ((srt ltI ns).map .int) := sortD_ints ns
theorem srt_intR {n : Nat} {o : List Int} (h : o.Perm (intR n)) : srt ltI o = intR n :=
  (srt_uniq ltI_tot ((intR_lt n).imp fun {a b} q => decide_eq_false (by omega)) h.symm).symm
theorem lst_eq (a b : List Int) : oEq (lI a) (lI b) = some (.bl (decide (a = b))) := En.oEq (E := En.lst En.int) (by decide) a b
theorem lst_ne (a b : List Int) : oNe (lI a) (lI b) = some (.bl (!decide (a = b))) := En.oNe (E := En.lst En.int) (by decide) a b
theorem in_t (i : Int) (a : List Int) : oIn (.int i) (tI a) = some (.bl (decide (i ∈ a))) := by
  unfold oIn; rw [show oInB (.int i) (tI a) = some (decide (i ∈ a)) from En.oInB_t (E := En.int) (by decide) i a]; rfl
theorem in_l (i : Int) (a : List Int) : oIn (.int i) (lI a) = some (.bl (decide (i ∈ a))) := by
  unfold oIn; rw [show oInB (.int i) (lI a) = some (decide (i ∈ a)) from En.oInB_l (E := En.int) (by decide) i a]; rfl
theorem nin_t (i : Int) (a : List Int) : oNotIn (.int i) (tI a) = some (.bl (!decide (i ∈ a))) := by
  unfold oNotIn; rw [show oInB (.int i) (tI a) = some (decide (i ∈ a)) from En.oInB_t (E := En.int) (by decide) i a]; rfl
theorem pOfF_ok {f : PF'} {ρ : Rho} {xs : List D} (h : f ρ = .ok xs) : pOfF f ρ = .ok (.lst xs) := by rw [k_pOfF, h, k_bind]
theorem cut_from (xs : List D) (j : Nat) : cutD xs (some (j : Int)) none = xs.drop j := by
  have e1 : sIxD xs.length 0 (some (j : Int)) = min j xs.length := by
    have e : sIxD xs.length 0 (some (j : Int)) = if (j : Int) < 0 then ((j : Int) + (xs.length : Int)).toNat else min (j : Int).toNat xs.length := rfl
    rw [e, if_neg (Int.not_lt.mpr (Int.natCast_nonneg j)), Int.toNat_natCast]
  have e2 : sIxD xs.length xs.length none = xs.length := rfl
  unfold cutD
  rw [e1, e2]
  by_cases h : j ≤ xs.length
  · rw [Nat.min_eq_left h]
    exact List.take_of_length_le (by rw [List.length_drop]; exact Nat.le_refl _)
  · have h' : xs.length ≤ j := by omega
    rw [Nat.min_eq_right h', List.drop_length, List.take_nil, List.drop_eq_nil_of_le h']
theorem k_pSl {a b : PE'} {ρ : Rho} {xs : List D} {j : Nat} (h1 : a ρ = .ok (.tup xs)) (h2 : b ρ = .ok (.int (j : Int))) : pSl a (oSo b) oNo ρ = .ok (.tup (xs.drop j)) := by
  have e : pSl a (oSo b) oNo ρ = (a ρ).bind fun x => (oSo b ρ).bind fun l => (oNo ρ).bind fun h => .of (oSlT x l h) := of_eq_true (eq_self _)
  have e2 : oSo b ρ = .ok (some (j : Int)) := by unfold oSo; rw [h2, k_bind]
  rw [e, h1, k_bind, e2, k_bind, show oNo ρ = .ok none from rfl, k_bind]
  show OP.of (some (D.tup (cutD xs (some (j : Int)) none))) = _
  rw [cut_from, k_of]
theorem k_pSlx {a b : PE'} {ρ : Rho} {xs : List D} {j : Nat} (h1 : a ρ = .ok (.tux xs)) (h2 : b ρ = .ok (.int (j : Int))) (hj : 0 < j) (hx : xs ≠ []) : pSl a (oSo b) oNo ρ = .ok (.tup (xs.drop j)) := by
  have e : pSl a (oSo b) oNo ρ = (a ρ).bind fun x => (oSo b ρ).bind fun l => (oNo ρ).bind fun h => .of (oSlT x l h) := of_eq_true (eq_self _)
  have e2 : oSo b ρ = .ok (some (j : Int)) := by unfold oSo; rw [h2, k_bind]
  rw [e, h1, k_bind, e2, k_bind, show oNo ρ = .ok none from rfl, k_bind]
  show OP.of (if sIxD xs.length 0 (some (j : Int)) = 0 ∧ sIxD xs.length xs.length none = xs.length then none else some (D.tup (cutD xs (some (j : Int)) none))) = _
  rw [if_neg, cut_from, k_of]
  rintro ⟨h3, _⟩
  have h4 : (if (j : Int) < 0 then ((j : Int) + (xs.length : Int)).toNat else min (j : Int).toNat xs.length) = 0 := h3
  rw [if_neg (by omega), Int.toNat_natCast] at h4
  have := List.length_pos_iff.mpr hx
  omega
theorem k_fSl {a b : PE'} {ρ : Rho} {xs : List D} {j : Nat} (h1 : a ρ = .ok (.lst xs)) (h2 : b ρ = .ok (.int (j : Int))) : fSl a (oSo b) oNo ρ = .ok (xs.drop j) := by
  have e : fSl a (oSo b) oNo ρ = (a ρ).bind fun x => (oSo b ρ).bind fun l => (oNo ρ).bind fun h => .of (oSlL x l h) := of_eq_true (eq_self _)
  have e2 : oSo b ρ = .ok (some (j : Int)) := by unfold oSo; rw [h2, k_bind]
  rw [e, h1, k_bind, e2, k_bind, show oNo ρ = .ok none from rfl, k_bind]
  show OP.of (some (cutD xs (some (j : Int)) none)) = _
  rw [cut_from, k_of]
theorem flat_len {α β : Type} {f : α → List β} {B : Nat} : ∀ {l : List α}, (∀ x ∈ l, (f x).length ≤ B) → (l.flatMap f).length ≤ l.length * B
  | [], _ => by simp
  | x :: r, h => by
    rw [List.flatMap_cons, List.length_append, List.length_cons, Nat.succ_mul]
    have h1 := h x List.mem_cons_self
    have h2 := flat_len (l := r) fun y hy => h y (List.mem_cons_of_mem _ hy)
    omega
theorem catT {xs ys : List D} (h : xs.length + ys.length ≤ line) : oCatT (.tup xs) (.tup ys) = some (.tup (xs ++ ys)) := by
  have e : oCatT (.tup xs) (.tup ys) = if xs.length + ys.length ≤ line then some (.tup (xs ++ ys)) else none := of_eq_true (eq_self _)
  rw [e, if_pos h]
theorem k_tOr (a b : PT') (ρ : Rho) : tOr a b ρ = (a ρ).bind fun x => if x then .ok true else b ρ := of_eq_true (eq_self _)
theorem k_tAnd (a b : PT') (ρ : Rho) : tAnd a b ρ = (a ρ).bind fun x => if x then b ρ else .ok false := of_eq_true (eq_self _)
theorem tOr_f {a b : PT'} {ρ : Rho} (h1 : a ρ = .ok false) (h2 : b ρ = .ok false) : tOr a b ρ = .ok false := by rw [k_tOr, h1, k_bind, if_neg Bool.false_ne_true, h2]
theorem tNot_t {a : PT'} {ρ : Rho} (h : a ρ = .ok true) : tNot a ρ = .ok false := by rw [k_tNot, h, k_bind]; rfl
theorem tNot_f {a : PT'} {ρ : Rho} (h : a ρ = .ok false) : tNot a ρ = .ok true := by rw [k_tNot, h, k_bind]; rfl
theorem tOf_ok {a : PE'} {ρ : Rho} {b : Bool} (h : a ρ = .ok (.bl b)) : tOf a ρ = .ok b := by rw [k_tOf, h, k_bl]
theorem p1_ok {g : D → Option D} {a : PE'} {ρ : Rho} {x z : D} (h1 : a ρ = .ok x) (h : g x = some z) : p1 g a ρ = .ok z := by rw [k_p1, h1, k_bind, h, k_of]
theorem p2_ok {g : D → D → Option D} {a b : PE'} {ρ : Rho} {x y z : D} (h1 : a ρ = .ok x) (h2 : b ρ = .ok y) (h : g x y = some z) : p2 g a b ρ = .ok z := by rw [k_p2, h1, k_bind, h2, k_bind, h, k_of]
theorem pN1_ok {g : List D → Option D} {a : PE'} {ρ : Rho} {x z : D} (h1 : a ρ = .ok x) (h : g [x] = some z) : pN g [a] ρ = .ok z := by rw [k_pN, k_args, h1, k_bind, k_args0, k_bind, k_bind, h, k_of]
theorem fN1_ok {g : List D → Option (List D)} {a : PE'} {ρ : Rho} {x : D} {z : List D} (h1 : a ρ = .ok x) (h : g [x] = some z) : fN g [a] ρ = .ok z := by rw [k_fN, k_args, h1, k_bind, k_args0, k_bind, k_bind, h, k_of]
theorem args1 {a : PE'} {ρ : Rho} {x : D} (h : a ρ = .ok x) : pArgs [a] ρ = .ok [x] := by rw [k_args, h, k_bind, k_args0, k_bind]
theorem args2 {a b : PE'} {ρ : Rho} {x y : D} (h : a ρ = .ok x) (h2 : b ρ = .ok y) : pArgs [a, b] ρ = .ok [x, y] := by rw [k_args, h, k_bind, args1 h2, k_bind]
theorem args3 {a b c : PE'} {ρ : Rho} {x y z : D} (h : a ρ = .ok x) (h2 : b ρ = .ok y) (h3 : c ρ = .ok z) : pArgs [a, b, c] ρ = .ok [x, y, z] := by rw [k_args, h, k_bind, args2 h2 h3, k_bind]
theorem args4 {a b c d : PE'} {ρ : Rho} {x y z u : D} (h : a ρ = .ok x) (h2 : b ρ = .ok y) (h3 : c ρ = .ok z) (h4 : d ρ = .ok u) : pArgs [a, b, c, d] ρ = .ok [x, y, z, u] := by rw [k_args, h, k_bind, args3 h2 h3 h4, k_bind]
theorem call_ok {F : List D → OF} {as : List PE'} {ρ : Rho} {ds : List D} {r : RV} (ha : pArgs as ρ = .ok ds) (h : F ds = .ret r) : pCall F as ρ = .ok r.d := by
  rw [k_pCall, ha, k_bind, h]; cases r <;> rfl
theorem callB_ok {F : List D → OF} {as : List PE'} {ρ : Rho} {ds : List D} {d : D} (ha : pArgs as ρ = .ok ds) (h : F ds = .ret (.val d)) (f : d.flat = true) : pCallB F as ρ = .ok d := by
  have e : pCallB F as ρ = (pArgs as ρ).bind fun xs => (F xs).flat := of_eq_true (eq_self _)
  have e2 : (OF.ret (.val d)).flat = if d.flat then .ok d else .stuck := of_eq_true (eq_self _)
  rw [e, ha, k_bind, h, e2, if_pos f]
theorem fcall_ok {F : List D → OF} {as : List PE'} {ρ : Rho} {ds xs : List D} (ha : pArgs as ρ = .ok ds) (h : F ds = .ret (.fresh xs)) : fCall F as ρ = .ok xs := by
  rw [k_fCall, ha, k_bind, h, k_newf]
theorem chainLe {a b c : PE'} {ρ : Rho} {i j k : Int} (h1 : a ρ = .ok (.int i)) (h2 : b ρ = .ok (.int j)) (h3 : c ρ = .ok (.int k)) (l1 : i ≤ j) (l2 : j ≤ k) : pChain oLe oLe a b c ρ = .ok (.bl true) := by
  unfold pChain
  rw [h1, k_bind, h2, k_bind, k_le, k_of, k_bind, decide_eq_true l1]
  dsimp only
  rw [h3, k_bind, k_le, k_of, decide_eq_true l2]
theorem chainLt {a b c : PE'} {ρ : Rho} {i j k : Int} (h1 : a ρ = .ok (.int i)) (h2 : b ρ = .ok (.int j)) (h3 : c ρ = .ok (.int k)) (l1 : i ≤ j) (l2 : j < k) : pChain oLe oLt a b c ρ = .ok (.bl true) := by
  unfold pChain
  rw [h1, k_bind, h2, k_bind, k_le, k_of, k_bind, decide_eq_true l1]
  dsimp only
  rw [h3, k_bind, k_lt, k_of, decide_eq_true l2]
/-- enumerate -/
def enumL {α : Type} : Nat → List α → List (Nat × α)
  | _, [] => []
  | k, x :: r => (k, x) :: enumL (k + 1) r
theorem enum_map {α : Type} (f : α → D) : ∀ (k : Nat) (l : List α), enumD k (l.map f) = (enumL k l).map fun p => .tup [.int (p.1 : Nat), f p.2]
  | _, [] => rfl
  | k, x :: r => by
    show D.tup [.int (k : Nat), f x] :: enumD (k + 1) (r.map f) = _
    rw [enum_map f (k + 1) r]; rfl
theorem enumL_len {α : Type} : ∀ (k : Nat) (l : List α), (enumL k l).length = l.length
  | _, [] => rfl
  | k, x :: r => by show (enumL (k + 1) r).length + 1 = _; rw [enumL_len]; rfl
theorem enumL_get {α : Type} : ∀ (k : Nat) (l : List α) (i : Nat), (enumL k l)[i]? = (l[i]?).map fun x => (k + i, x)
  | _, [], i => by simp [enumL]
  | k, x :: r, 0 => rfl
  | k, x :: r, i + 1 => by
    show (enumL (k + 1) r)[i]? = _
    rw [enumL_get (k + 1) r i, List.getElem?_cons_succ, show k + 1 + i = k + (i + 1) by omega]
theorem enum_split {α : Type} {l : List α} {pre post : List (Nat × α)} {x : Nat × α} (e : enumL 0 l = pre ++ x :: post) : x.1 = pre.length ∧ l[pre.length]? = some x.2 ∧ pre.length < l.length := by
  have hl := congrArg List.length e
  rw [enumL_len, List.length_append, List.length_cons] at hl
  have hlt : pre.length < l.length := by omega
  have h := enumL_get 0 l pre.length
  rw [e, List.getElem?_append_right (Nat.le_refl _), Nat.sub_self, List.getElem?_cons_zero, List.getElem?_eq_getElem hlt] at h
  have h2 := Option.some.inj (show some x = some (0 + pre.length, l[pre.length]) from h)
  subst h2
  exact ⟨Nat.zero_add _, List.getElem?_eq_getElem hlt, hlt⟩
theorem k_gT2 (i j : Nat) (a b : D) (ρ : Rho) : gT [i, j] (.tup [a, b]) ρ = some ((ρ.set i (.im a)).set j (.im b)) := rfl
theorem k_iEn {a : PE'} {ρ : Rho} {d : D} {xs : List D} (h : a ρ = .ok d) (hs : d.seq? = some xs) : iEn a ρ = .ok (enumD 0 xs) := by
  have e : iEn a ρ = (a ρ).bind fun x => .of (x.seq?.map (enumD 0)) := of_eq_true (eq_self _)
  rw [e, h, k_bind, hs]; rfl
theorem k_asgT {e : PE'} {ρ : Rho} {i j : Nat} {a b : D} (h : e ρ = .ok (.tup [a, b])) : sAsg (gT [i, j]) e ρ = .nx ((ρ.set i (.im a)).set j (.im b)) := by
  unfold sAsg; rw [h, k_opS]; rfl
/-- a sequence of ints -/
def IsS (d : D) (ns : List Int) : Prop := d = lI ns ∨ d = tI ns ∨ d = xI ns
theorem IsS.len {d : D} {ns : List Int} (h : IsS d ns) : oLen [d] = some (.int ns.length) := by
  rcases h with rfl | rfl | rfl
  · unfold lI; rw [k_lenl, List.length_map]
  · unfold tI; rw [k_lent, List.length_map]
  · unfold xI; rw [k_lenx, List.length_map]
theorem IsS.ix {d : D} {ns : List Int} (h : IsS d ns) {k : Nat} {x : Int} (hx : ns[k]? = some x) : oIx d (.int (k : Int)) = some (.int x) := by
  have e : (ns.map D.int)[k]? = some (.int x) := by rw [List.getElem?_map, hx]; rfl
  rcases h with rfl | rfl | rfl
  · exact ix_l e
  · exact ix_t e
  · exact ix_x e
theorem IsS.l (ns : List Int) : IsS (lI ns) ns := .inl rfl
theorem IsS.t (ns : List Int) : IsS (tI ns) ns := .inr (.inl rfl)
theorem IsS.x (ns : List Int) : IsS (xI ns) ns := .inr (.inr rfl)
theorem runI_eq {n m : Nat} {s : SS} {C : Nat} {ds : List D} {ρ : Rho} {fs : List (Str × D)} (h : ds.length = m) (hs : s (.mo C [] :: (ds.map .im ++ List.replicate (n - (ds.length + 1)) .no)) = .nx (.mo C fs :: ρ)) : runI n m s C ds = .ok C fs := by
  unfold runI
  rw [if_pos h, hs]
  show (if C = C then OI.ok C fs else .stuck) = _
  rw [if_pos rfl]
end Pu
end
section
/-! the functions of the program, on slots: printed by gen.py -/
namespace K40
open PySem Pu
/-- _law_cell -/
def g__law_cell (CBook : Nat) : SS :=
  (sSeq (sAsg (gN 2) (p2 oAdd (p2 oMul (pC (.int 17)) (pB 1)) (pC (.int 5))))
  (sSeq (sIf (tOf (p2 oLt (pB 1) (pN oLen [(pB 0)])))
  (sSeq (sAsg (gN 2) (pN oAbs [(p2 oIx (pB 0) (pB 1))]))
  (sIf (tOf (p2 oGe (pB 2) (p2 oPow (pC (.int 10)) (pC (.int 18)))))
  (sRet (p2 oSub (pB 2) (p2 oPow (pC (.int 10)) (pC (.int 18)))))
  sNx))
  (sIf (tOf (p2 oGt (pN oLen [(pB 0)]) (pC (.int 0))))
  (sAsg (gN 2) (p2 oAdd (pN oAbs [(p2 oIx (pB 0) (p2 oMod (pN oInt1 [(pB 1)]) (pN oLen [(pB 0)])))]) (p2 oMul (pC (.int 101)) (pB 1))))
  sNx))
  (sSeq (sAsg (gN 2) (p2 oMod (pN oInt1 [(p2 oAdd (p2 oAdd (p2 oMul (pB 2) (pC (.int 48271))) (p2 oMul (pC (.int 11)) (pB 1))) (pC (.int 7)))]) (pC (.int 2147483647))))
  (sRet (p2 oDiv (p2 oMod (pN oInt1 [(p2 oMul (p2 oAdd (p2 oAdd (p2 oMul (pB 2) (pB 2)) (p2 oMul (pC (.int 69621)) (pB 2))) (pB 1)) (pC (.int 1000000000039)))]) (pC (.int 2305843009213693951))) (pC (.int 2)))))))
def F__law_cell (CBook : Nat) : List D → OF := runF 3 2 (g__law_cell CBook)
theorem e__law_cell (CBook : Nat) (a0 a1 : D) : F__law_cell CBook [a0, a1] = (g__law_cell CBook [.im a0, .im a1, .no]).fn := rfl
/-- _law_order -/
def g__law_order (CBook : Nat) : SS :=
  (sSeq (sAsgF 2 (fN oRange [(pV 1)]))
  (sSeq (sAsgF 3 (nLst []))
  (sSeq (sFor (gN 4) (iRg [(pV 1)])
  (sSeq (sAsg (gN 5) (p2 oSub (pB 1) (pB 4)))
  (sSeq (sAppE 3 (ePopAt 2 (p2 oMod (pN oInt1 [(pB 0)]) (pB 5))))
  (sAsg (gN 0) (p2 oDiv (pB 0) (pB 5))))))
  (sRetM 3))))
def F__law_order (CBook : Nat) : List D → OF := runF 6 2 (g__law_order CBook)
theorem e__law_order (CBook : Nat) (a0 a1 : D) : F__law_order CBook [a0, a1] = (g__law_order CBook [.im a0, .im a1, .no, .no, .no, .no]).fn := rfl
/-- _law_full -/
def g__law_full (CBook : Nat) : SS :=
  (sRetF (fCat (pOfF (fCat (pOfF (nLst [(p2 oAdd (pB 1) (pB 2))])) (p2 oIx (pB 0) (pB 2)))) (pOfF (fComp [3] (gN 3) (iRg [(pN oLen [(pB 0)])]) (tOf (p2 oNe (pB 3) (pB 2))) (p2 oAdd (pB 1) (pB 3))))))
def F__law_full (CBook : Nat) : List D → OF := runF 4 3 (g__law_full CBook)
theorem e__law_full (CBook : Nat) (a0 a1 a2 : D) : F__law_full CBook [a0, a1, a2] = (g__law_full CBook [.im a0, .im a1, .im a2, .no]).fn := rfl
/-- _law_ranks -/
def g__law_ranks (CBook : Nat) : SS :=
  (sSeq (sAsgF 2 (nLst []))
  (sSeq (sFor (gN 3) (iRg [(pN oLen [(pB 0)])])
  (sSeq (sAsg (gN 4) (pCall (F__law_full CBook) [(pV 0), (pV 1), (pV 3)]))
  (sApp 2 (pOfF (fComp [5] (gN 5) (iRg [(pN oLen [(pB 4)])]) tYes (pMt isLst oIdx (pB 4) (pV 5)))))))
  (sRetM 2)))
def F__law_ranks (CBook : Nat) : List D → OF := runF 6 2 (g__law_ranks CBook)
theorem e__law_ranks (CBook : Nat) (a0 a1 : D) : F__law_ranks CBook [a0, a1] = (g__law_ranks CBook [.im a0, .im a1, .no, .no, .no, .no]).fn := rfl
/-- _law_rooms -/
def g__law_rooms (CBook : Nat) (R : List D → OF) : SS :=
  (sSeq (sIf (tOf (p2 oEq (pB 1) (pC (.int 0))))
  (sRetF (nLst [(nTup [])]))
  sNx)
  (sSeq (sAsgF 2 (nLst []))
  (sSeq (sFor (gN 3) (iRg [(p2 oAdd (p2 oSub (pN oLen [(pB 0)]) (pB 1)) (pC (.int 1)))])
  (sFor (gN 4) (iSq (pCall (R) [(pSl (pB 0) (oSo (p2 oAdd (pB 3) (pC (.int 1)))) oNo), (p2 oSub (pB 1) (pC (.int 1)))]))
  (sApp 2 (p2 oCatT (nTup [(p2 oIx (pB 0) (pB 3))]) (pB 4)))))
  (sRetM 2))))
def F__law_rooms (CBook : Nat) : Nat → List D → OF
  | 0 => runF 5 2 sNo
  | k + 1 => runF 5 2 (g__law_rooms CBook (F__law_rooms CBook k))
theorem e__law_rooms (CBook : Nat) (k : Nat) (a0 a1 : D) : F__law_rooms CBook (k + 1) [a0, a1] = (g__law_rooms CBook (F__law_rooms CBook k) [.im a0, .im a1, .no, .no, .no]).fn := rfl
/-- _law_beaters -/
def g__law_beaters (CBook : Nat) : SS :=
  (sSeq (sAsg (gN 2) (pOfF (fComp [6] (gN 6) (iSq (pV 0)) tYes (pN oMinL [(pOfF (fComp [7] (gN 7) (iSq (pV 1)) tYes (p2 oIx (pB 6) (pB 7))))]))))
  (sSeq (sAsgF 3 (nLst []))
  (sSeq (sFor (gN 4) (iRg [(pN oLen [(p2 oIx (pB 0) (pC (.int 0)))])])
  (sSeq (sAsg (gN 5) (pOfF (fComp [8] (gN 8) (iRg [(pN oLen [(pB 0)])]) (tOf (p2 oGt (p2 oIx (p2 oIx (pB 0) (pB 8)) (pB 4)) (p2 oIx (pB 2) (pB 8)))) (pV 8))))
  (sIf (tOf (p2 oEq (pN oLen [(pB 5)]) (pN oLen [(pB 0)])))
  (sApp 3 (pV 4))
  sNx)))
  (sRetM 3))))
def F__law_beaters (CBook : Nat) : List D → OF := runF 9 2 (g__law_beaters CBook)
theorem e__law_beaters (CBook : Nat) (a0 a1 : D) : F__law_beaters CBook [a0, a1] = (g__law_beaters CBook [.im a0, .im a1, .no, .no, .no, .no, .no, .no, .no]).fn := rfl
/-- check_orders -/
def g_check_orders (CBook : Nat) : SS :=
  (sSeq (sIf (tNot (tOf (pChain oLe oLe (pC (.int 1)) (pN oLen [(pB 0)]) (pC (.int 4)))))
  sNo
  sNx)
  (sSeq (sAsg (gN 1) (pN oLen [(p2 oIx (pB 0) (pC (.int 0)))]))
  (sSeq (sIf (tNot (tOf (pChain oLe oLe (pC (.int 1)) (pB 1) (pC (.int 8)))))
  sNo
  sNx)
  (sSeq (sFor (gT [2, 3]) (iEn (pV 0))
  (sIf (tOf (p2 oNe (pOfF (fN oSorted [(pB 3)])) (pOfF (fN oRange [(pV 1)]))))
  sNo
  sNx))
  (sRet (nTup [(pN oLen [(pB 0)]), (pV 1)]))))))
def F_check_orders (CBook : Nat) : List D → OF := runF 4 1 (g_check_orders CBook)
theorem e_check_orders (CBook : Nat) (a0 : D) : F_check_orders CBook [a0] = (g_check_orders CBook [.im a0, .no, .no, .no]).fn := rfl
/-- _law_row -/
def g__law_row (CBook : Nat) : SS :=
  (sSeq (sIf (tOf (p2 oNe (pN oLen [(pB 0)]) (pN oLen [(pB 1)])))
  (sRet (pC (.bl false)))
  sNx)
  (sSeq (sFor (gN 2) (iRg [(pN oLen [(pB 1)])])
  (sIf (tOr (tNot (tOf (p1 (oIs .int) (p2 oIx (pB 0) (pB 2))))) (tOr (tOf (p1 (oIs .bool) (p2 oIx (pB 0) (pB 2)))) (tOf (p2 oNe (p2 oIx (pB 0) (pB 2)) (p2 oIx (pB 1) (pB 2))))))
  (sRet (pC (.bl false)))
  sNx))
  (sRet (pC (.bl true)))))
def F__law_row (CBook : Nat) : List D → OF := runF 3 2 (g__law_row CBook)
theorem e__law_row (CBook : Nat) (a0 a1 : D) : F__law_row CBook [a0, a1] = (g__law_row CBook [.im a0, .im a1, .no]).fn := rfl
/-- _law_rows -/
def g__law_rows (CBook : Nat) : SS :=
  (sSeq (sIf (tOr (tNot (tOf (p1 (oIs .list) (pB 0)))) (tOf (p2 oNe (pN oLen [(pB 0)]) (pN oLen [(pB 1)]))))
  (sRet (pC (.bl false)))
  sNx)
  (sSeq (sFor (gN 2) (iRg [(pN oLen [(pB 1)])])
  (sIf (tOr (tNot (tOf (p1 (oIs .tuple) (p2 oIx (pB 0) (pB 2))))) (tNot (tOf (pCall (F__law_row CBook) [(p2 oIx (pB 0) (pB 2)), (p2 oIx (pB 1) (pB 2))]))))
  (sRet (pC (.bl false)))
  sNx))
  (sRet (pC (.bl true)))))
def F__law_rows (CBook : Nat) : List D → OF := runF 3 2 (g__law_rows CBook)
theorem e__law_rows (CBook : Nat) (a0 a1 : D) : F__law_rows CBook [a0, a1] = (g__law_rows CBook [.im a0, .im a1, .no]).fn := rfl
/-- full_orders -/
def g_full_orders (CBook : Nat) : SS :=
  (sSeq (sAsg (gT [1, 2]) (pCall (F_check_orders CBook) [(pV 0)]))
  (sSeq (sAsgF 3 (nLst []))
  (sSeq (sFor (gT [4, 5]) (iEn (pV 0))
  (sSeq (sAsg (gN 6) (pOfF (fComp [7] (gN 7) (iRg [(pV 1)]) (tOf (p2 oNe (pB 7) (pB 4))) (p2 oAdd (pB 2) (pB 7)))))
  (sApp 3 (pN oTupleX [(pOfF (fCat (pOfF (fCat (pOfF (nLst [(p2 oAdd (pB 2) (pB 4))])) (pOfF (fN oListOf [(pB 5)])))) (pB 6)))]))))
  (sRetM 3))))
def F_full_orders (CBook : Nat) : List D → OF := runF 8 1 (g_full_orders CBook)
theorem e_full_orders (CBook : Nat) (a0 : D) : F_full_orders CBook [a0] = (g_full_orders CBook [.im a0, .no, .no, .no, .no, .no, .no, .no]).fn := rfl
/-- first_of -/
def g_first_of (CBook : Nat) : SS :=
  (sRet (p2 oIx (pOfF (fComp [2] (gN 2) (iSq (pV 0)) (tOf (p2 oIn (pB 2) (pB 1))) (pV 2))) (pC (.int 0))))
def F_first_of (CBook : Nat) : List D → OF := runF 3 2 (g_first_of CBook)
theorem e_first_of (CBook : Nat) (a0 a1 : D) : F_first_of CBook [a0, a1] = (g_first_of CBook [.im a0, .im a1, .no]).fn := rfl
/-- places_above -/
def g_places_above (CBook : Nat) : SS :=
  (sRet (pSl (pB 0) (oSo (p2 oAdd (pMt isTux oIdx (pB 0) (pCall (F_first_of CBook) [(pV 0), (pV 1)])) (pC (.int 1)))) oNo))
def F_places_above (CBook : Nat) : List D → OF := runF 2 2 (g_places_above CBook)
theorem e_places_above (CBook : Nat) (a0 a1 : D) : F_places_above CBook [a0, a1] = (g_places_above CBook [.im a0, .im a1]).fn := rfl
/-- above_in_all -/
def g_above_in_all (CBook : Nat) : SS :=
  (sSeq (sAsg (gN 2) (pOfF (fN oSorted [(pCall (F_places_above CBook) [(p2 oIx (pB 0) (pC (.int 0))), (pV 1)])])))
  (sSeq (sFor (gN 3) (iSq (pOfF (fSl (pB 0) (oSo (pC (.int 1))) oNo)))
  (sSeq (sAsg (gN 4) (pCall (F_places_above CBook) [(pV 3), (pV 1)]))
  (sAsg (gN 2) (pOfF (fComp [5] (gN 5) (iSq (pV 2)) (tOf (p2 oIn (pB 5) (pB 4))) (pV 5))))))
  (sRet (pV 2))))
def F_above_in_all (CBook : Nat) : List D → OF := runF 6 2 (g_above_in_all CBook)
theorem e_above_in_all (CBook : Nat) (a0 a1 : D) : F_above_in_all CBook [a0, a1] = (g_above_in_all CBook [.im a0, .im a1, .no, .no, .no, .no]).fn := rfl
/-- beaters -/
def g_beaters (CBook : Nat) : SS :=
  (sRet (pCall (F_above_in_all CBook) [(pCall (F_full_orders CBook) [(pV 0)]), (pV 1)]))
def F_beaters (CBook : Nat) : List D → OF := runF 2 2 (g_beaters CBook)
theorem e_beaters (CBook : Nat) (a0 a1 : D) : F_beaters CBook [a0, a1] = (g_beaters CBook [.im a0, .im a1]).fn := rfl
/-- least_place -/
def g_least_place (CBook : Nat) : SS :=
  (sRet (pCall (F_first_of CBook) [(p2 oIx (pCall (F_full_orders CBook) [(pV 0)]) (pB 1)), (pV 2)]))
def F_least_place (CBook : Nat) : List D → OF := runF 3 3 (g_least_place CBook)
theorem e_least_place (CBook : Nat) (a0 a1 a2 : D) : F_least_place CBook [a0, a1, a2] = (g_least_place CBook [.im a0, .im a1, .im a2]).fn := rfl
/-- _law_one_room -/
def g__law_one_room (CBook : Nat) : SS :=
  (sSeq (sAsg (gN 3) (pCall (F_beaters CBook) [(pV 0), (pV 2)]))
  (sSeq (sIf (tOr (tNot (tOf (p1 (oIs .list) (pB 3)))) (tNot (tOf (pCall (F__law_row CBook) [(pV 3), (pCall (F__law_beaters CBook) [(pV 1), (pV 2)])]))))
  (sRet (pC (.bl false)))
  sNx)
  (sSeq (sFor (gN 4) (iRg [(pN oLen [(pB 1)])])
  (sSeq (sAsg (gN 5) (pCall (F_least_place CBook) [(pV 0), (pV 4), (pV 2)]))
  (sSeq (sIf (tOr (tOf (p2 oNotIn (pB 5) (pB 2))) (tNot (tOf (pCall (F__law_row CBook) [(pOfF (nLst [(pV 5)])), (pOfF (nLst [(pV 5)]))]))))
  (sRet (pC (.bl false)))
  sNx)
  (sIf (tOf (p2 oNe (p2 oIx (p2 oIx (pB 1) (pB 4)) (pB 5)) (pN oMinL [(pOfF (fComp [6] (gN 6) (iSq (pV 2)) tYes (p2 oIx (p2 oIx (pB 1) (pB 4)) (pB 6))))])))
  (sRet (pC (.bl false)))
  sNx))))
  (sRet (pC (.bl true))))))
def F__law_one_room (CBook : Nat) : List D → OF := runF 7 3 (g__law_one_room CBook)
theorem e__law_one_room (CBook : Nat) (a0 a1 a2 : D) : F__law_one_room CBook [a0, a1, a2] = (g__law_one_room CBook [.im a0, .im a1, .im a2, .no, .no, .no, .no]).fn := rfl
/-- _law_by_bits -/
def g__law_by_bits (CBook : Nat) : SS :=
  (sSeq (sAsgF 2 (nLst []))
  (sSeq (sFor (gN 3) (iRg [(pV 0)])
  (sSeq (sIf (tOf (p2 oEq (p2 oMod (pN oInt1 [(pB 1)]) (pC (.int 2))) (pC (.int 1))))
  (sApp 2 (pV 3))
  sNx)
  (sAsg (gN 1) (p2 oDiv (pB 1) (pC (.int 2))))))
  (sSeq (sIf (tOf (p2 oEq (pN oLen [(pB 2)]) (pC (.int 0))))
  (sRet (nTup [(p2 oSub (pB 0) (pC (.int 1)))]))
  sNx)
  (sRet (pN oTupleOf [(pB 2)])))))
def F__law_by_bits (CBook : Nat) : List D → OF := runF 4 2 (g__law_by_bits CBook)
theorem e__law_by_bits (CBook : Nat) (a0 a1 : D) : F__law_by_bits CBook [a0, a1] = (g__law_by_bits CBook [.im a0, .im a1, .no, .no]).fn := rfl
/-- _law_some_rooms -/
def g__law_some_rooms (CBook : Nat) : SS :=
  (sSeq (sAsg (gN 4) (pN oLen [(p2 oIx (pB 1) (pC (.int 0)))]))
  (sSeq (sAsg (gN 5) (p2 oAdd (pC (.int 1)) (p2 oDiv (pN oLen [(pB 2)]) (pC (.int 9)))))
  (sSeq (sFor (gN 6) (fN oRange3 [(p2 oMod (pN oInt1 [(pCall (F__law_cell CBook) [(pV 3), (pC (.int 8))])]) (pB 5)), (pN oLen [(pB 2)]), (pV 5)])
  (sIf (tNot (tOf (pCall (F__law_one_room CBook) [(pV 0), (pV 1), (p2 oIx (pB 2) (pB 6))])))
  (sRet (pC (.bl false)))
  sNx))
  (sSeq (sFor (gN 7) (iRg [(pC (.int 3))])
  (sIf (tNot (tOf (pCall (F__law_one_room CBook) [(pV 0), (pV 1), (pCall (F__law_by_bits CBook) [(pV 4), (pCall (F__law_cell CBook) [(pV 3), (p2 oAdd (pC (.int 9)) (pB 7))])])])))
  (sRet (pC (.bl false)))
  sNx))
  (sRet (pC (.bl true)))))))
def F__law_some_rooms (CBook : Nat) : List D → OF := runF 8 4 (g__law_some_rooms CBook)
theorem e__law_some_rooms (CBook : Nat) (a0 a1 a2 a3 : D) : F__law_some_rooms CBook [a0, a1, a2, a3] = (g__law_some_rooms CBook [.im a0, .im a1, .im a2, .im a3, .no, .no, .no, .no]).fn := rfl
/-- subsets -/
def g_subsets (CBook : Nat) (R : List D → OF) : SS :=
  (sSeq (sIf (tOf (p2 oEq (pB 1) (pC (.int 0))))
  (sRetF (nLst [(nTup [])]))
  sNx)
  (sSeq (sAsgF 2 (nLst []))
  (sSeq (sFor (gN 3) (iRg [(p2 oAdd (p2 oSub (pN oLen [(pB 0)]) (pB 1)) (pC (.int 1)))])
  (sFor (gN 4) (iSq (pCall (R) [(pSl (pB 0) (oSo (p2 oAdd (pB 3) (pC (.int 1)))) oNo), (p2 oSub (pB 1) (pC (.int 1)))]))
  (sApp 2 (p2 oCatT (nTup [(p2 oIx (pB 0) (pB 3))]) (pB 4)))))
  (sRetM 2))))
def F_subsets (CBook : Nat) : Nat → List D → OF
  | 0 => runF 5 2 sNo
  | k + 1 => runF 5 2 (g_subsets CBook (F_subsets CBook k))
theorem e_subsets (CBook : Nat) (k : Nat) (a0 a1 : D) : F_subsets CBook (k + 1) [a0, a1] = (g_subsets CBook (F_subsets CBook k) [.im a0, .im a1, .no, .no, .no]).fn := rfl
/-- unbeaten_rooms -/
def g_unbeaten_rooms (CBook : Nat) : SS :=
  (sSeq (sAsg (gT [1, 2]) (pCall (F_check_orders CBook) [(pV 0)]))
  (sSeq (sAsg (gN 3) (pCall (F_full_orders CBook) [(pV 0)]))
  (sRetF (fComp [4] (gN 4) (iSq (pCall (F_subsets CBook 6) [(pTupRg [(p2 oAdd (pB 2) (pB 1))]), (pV 1)])) (tOf (p2 oEq (pN oLen [(pCall (F_above_in_all CBook) [(pV 3), (pV 4)])]) (pC (.int 0)))) (pV 4)))))
def F_unbeaten_rooms (CBook : Nat) : List D → OF := runF 5 1 (g_unbeaten_rooms CBook)
theorem e_unbeaten_rooms (CBook : Nat) (a0 : D) : F_unbeaten_rooms CBook [a0] = (g_unbeaten_rooms CBook [.im a0, .no, .no, .no, .no]).fn := rfl
/-- room_fault -/
def g_room_fault (CBook : Nat) : SS :=
  (sSeq (sIf (tOf (p2 oNe (pN oLen [(pB 2)]) (pB 1)))
  (sRet (pC (.str "count")))
  sNx)
  (sSeq (sFor (gN 3) (iSq (pV 2))
  (sIf (tNot (tOf (pChain oLe oLt (pC (.int 0)) (pB 3) (pB 0))))
  (sRet (pC (.str "place")))
  sNx))
  (sSeq (sIf (tOf (p2 oNe (pN oLenSet [(pB 2)]) (pB 1)))
  (sRet (pC (.str "twice")))
  sNx)
  (sRet (pC (.str ""))))))
def F_room_fault (CBook : Nat) : List D → OF := runF 4 3 (g_room_fault CBook)
theorem e_room_fault (CBook : Nat) (a0 a1 a2 : D) : F_room_fault CBook [a0, a1, a2] = (g_room_fault CBook [.im a0, .im a1, .im a2, .no]).fn := rfl
/-- Book.__init__ -/
def g_Book___init__ (CBook : Nat) : SS :=
  (sSeq (sIf (tNot (tOf (pChain oLe oLe (pC (.int 1)) (pB 1) (pC (.int 12)))))
  sNo
  sNx)
  (sSeq (sIf (tNot (tOf (pChain oLe oLe (pC (.int 1)) (pB 2) (pB 1))))
  sNo
  sNx)
  (sSeq (sNewD 4)
  (sSeq (sFor (gT [5, 6]) (iEn (pV 3))
  (sSeq (sAsg (gN 7) (pCall (F_room_fault CBook) [(pV 1), (pV 2), (pV 6)]))
  (sSeq (sAsg (gN 8) (pN oTupleOf [(pOfF (fN oSorted [(pB 6)]))]))
  (sSeq (sIf (tAnd (tOf (p2 oEq (pB 7) (pC (.str "")))) (tOf (pInD 4 (pV 8))))
  (sAsg (gN 7) (pC (.str "again")))
  sNx)
  (sSeq (sIf (tOf (p2 oNe (pB 7) (pC (.str ""))))
  sNo
  sNx)
  (sPutD 4 (pV 8) (pC (.bl true))))))))
  (sSeq (sFld 0 CBook "places" (pV 1))
  (sSeq (sFld 0 CBook "size" (pV 2))
  (sFld 0 CBook "rooms" (pN oTupleOf [(pOfF (fSortD 4))]))))))))
def F_Book___init__ (CBook : Nat) : List D → OI := runI 9 3 (g_Book___init__ CBook) CBook
/-- own_places -/
def g_own_places (CBook : Nat) : SS :=
  (sSeq (sAsg (gT [1, 2]) (pCall (F_check_orders CBook) [(pV 0)]))
  (sRet (pTupRg [(pV 2), (p2 oAdd (pB 2) (pB 1))])))
def F_own_places (CBook : Nat) : List D → OF := runF 3 1 (g_own_places CBook)
theorem e_own_places (CBook : Nat) (a0 : D) : F_own_places CBook [a0] = (g_own_places CBook [.im a0, .no, .no]).fn := rfl
/-- unbeaten_book -/
def g_unbeaten_book (CBook : Nat) : SS :=
  (sSeq (sAsg (gT [1, 2]) (pCall (F_check_orders CBook) [(pV 0)]))
  (sRet (pMake (F_Book___init__ CBook) [(p2 oAdd (pB 2) (pB 1)), (pV 1), (pOfF (fCat (pCall (F_unbeaten_rooms CBook) [(pV 0)]) (pOfF (nLst [(pCall (F_own_places CBook) [(pV 0)])]))))])))
def F_unbeaten_book (CBook : Nat) : List D → OF := runF 3 1 (g_unbeaten_book CBook)
theorem e_unbeaten_book (CBook : Nat) (a0 : D) : F_unbeaten_book CBook [a0] = (g_unbeaten_book CBook [.im a0, .no, .no]).fn := rfl
/-- _law_book -/
def g__law_book (CBook : Nat) : SS :=
  (sSeq (sAsg (gN 4) (pCall (F_unbeaten_book CBook) [(pV 0)]))
  (sSeq (sIf (tOr (tNot (tOf (p1 (oIsC CBook) (pB 4)))) (tOr (tOf (p2 oNe (p1 (oFld CBook "places") (pB 4)) (pB 1))) (tOf (p2 oNe (p1 (oFld CBook "size") (pB 4)) (pB 2)))))
  (sRet (pC (.bl false)))
  sNx)
  (sRet (pCall (F__law_rows CBook) [(pOfF (fN oListOf [(p1 (oFld CBook "rooms") (pB 4))])), (pOfF (fN oSorted [(pOfF (fCat (pB 3) (pOfF (nLst [(pTupRg [(p2 oSub (pB 1) (pB 2)), (pV 1)])]))))]))]))))
def F__law_book (CBook : Nat) : List D → OF := runF 5 4 (g__law_book CBook)
theorem e__law_book (CBook : Nat) (a0 a1 a2 a3 : D) : F__law_book CBook [a0, a1, a2, a3] = (g__law_book CBook [.im a0, .im a1, .im a2, .im a3, .no]).fn := rfl
/-- law -/
def g_law (CBook : Nat) : SS :=
  (sSeq (sAsg (gN 1) (p2 oAdd (pC (.int 1)) (p2 oMod (pN oInt1 [(pCall (F__law_cell CBook) [(pV 0), (pC (.int 0))])]) (pC (.int 4)))))
  (sSeq (sAsg (gN 2) (p2 oAdd (pC (.int 1)) (p2 oMod (pN oInt1 [(pCall (F__law_cell CBook) [(pV 0), (pC (.int 1))])]) (pN oMin2 [(pC (.int 6)), (p2 oSub (pC (.int 8)) (pB 1))]))))
  (sSeq (sIf (tOf (p2 oEq (p2 oMod (pN oInt1 [(pCall (F__law_cell CBook) [(pV 0), (pC (.int 2))])]) (pC (.int 32))) (pC (.int 5))))
  (sAsg (gN 2) (p2 oAdd (pC (.int 5)) (p2 oMod (pN oInt1 [(pCall (F__law_cell CBook) [(pV 0), (pC (.int 1))])]) (pC (.int 4)))))
  sNx)
  (sSeq (sAsg (gN 3) (pOfF (fComp [12] (gN 12) (iRg [(pV 1)]) tYes (pCall (F__law_order CBook) [(pCall (F__law_cell CBook) [(pV 0), (p2 oAdd (pC (.int 3)) (pB 12))]), (pV 2)]))))
  (sSeq (sAsg (gN 4) (pOfF (fComp [13] (gN 13) (iSq (pV 3)) tYes (pOfF (fRev (pB 13))))))
  (sSeq (sAsg (gN 5) (pOfF (fComp [13] (gN 13) (iSq (pV 3)) tYes (pOfF (fN oListOf [(pB 13)])))))
  (sSeq (sIf (tOf (p2 oEq (p2 oMod (pN oInt1 [(pCall (F__law_cell CBook) [(pV 0), (pC (.int 7))])]) (pC (.int 2))) (pC (.int 1))))
  (sAsg (gN 5) (pN oTupleOf [(pOfF (fComp [13] (gN 13) (iSq (pV 3)) tYes (pN oTupleOf [(pB 13)])))]))
  sNx)
  (sSeq (sAsg (gN 6) (pCall (F__law_ranks CBook) [(pV 3), (pV 2)]))
  (sSeq (sAsg (gN 7) (pCall (F__law_rooms CBook 6) [(pTupRg [(p2 oAdd (pB 1) (pB 2))]), (pV 1)]))
  (sSeq (sAsg (gN 8) (pOfF (fComp [14] (gN 14) (iSq (pV 7)) (tOf (p2 oEq (pN oLen [(pCall (F__law_beaters CBook) [(pV 6), (pV 14)])]) (pC (.int 0)))) (pV 14))))
  (sSeq (sAsg (gN 9) (pCall (F_check_orders CBook) [(pV 5)]))
  (sSeq (sIf (tOr (tNot (tOf (p1 (oIs .tuple) (pB 9)))) (tNot (tOf (pCall (F__law_row CBook) [(pV 9), (nTup [(pV 1), (pV 2)])]))))
  (sRet (pC (.bl false)))
  sNx)
  (sSeq (sIf (tNot (tOf (pCall (F__law_rows CBook) [(pCall (F_full_orders CBook) [(pV 5)]), (pOfF (fComp [12] (gN 12) (iRg [(pV 1)]) tYes (pN oTupleOf [(pCall (F__law_full CBook) [(pV 3), (pV 2), (pV 12)])])))])))
  (sRet (pC (.bl false)))
  sNx)
  (sSeq (sIf (tNot (tOf (pCall (F__law_some_rooms CBook) [(pV 5), (pV 6), (pV 7), (pV 0)])))
  (sRet (pC (.bl false)))
  sNx)
  (sSeq (sAsgF 10 (fCall (F_unbeaten_rooms CBook) [(pV 5)]))
  (sSeq (sIf (tNot (tOf (pCallB (F__law_rows CBook) [(pB 10), (pB 8)])))
  (sRet (pC (.bl false)))
  sNx)
  (sSeq (sApp 10 (nTup []))
  (sSeq (sAsg (gN 11) (pCall (F__law_ranks CBook) [(pV 4), (pV 2)]))
  (sSeq (sIf (tNot (tOf (pCall (F__law_rows CBook) [(pCall (F_unbeaten_rooms CBook) [(pV 4)]), (pOfF (fComp [14] (gN 14) (iSq (pV 7)) (tOf (p2 oEq (pN oLen [(pCall (F__law_beaters CBook) [(pV 11), (pV 14)])]) (pC (.int 0)))) (pV 14)))])))
  (sRet (pC (.bl false)))
  sNx)
  (sSeq (sIf (tOr (tNot (tOf (pCall (F__law_rows CBook) [(pCall (F_unbeaten_rooms CBook) [(pV 5)]), (pV 8)]))) (tNot (tOf (pCall (F__law_book CBook) [(pV 5), (p2 oAdd (pB 1) (pB 2)), (pV 1), (pV 8)]))))
  (sRet (pC (.bl false)))
  sNx)
  (sRet (vAnd (p2 oEq (pOfF (fComp [13] (gN 13) (iSq (pV 5)) tYes (pOfF (fN oListOf [(pB 13)])))) (pB 3)) (p2 oEq (pB 4) (pOfF (fComp [13] (gN 13) (iSq (pV 3)) tYes (pOfF (fRev (pB 13))))))))))))))))))))))))))))
def F_law (CBook : Nat) : List D → OF := runF 15 1 (g_law CBook)
theorem e_law (CBook : Nat) (a0 : D) : F_law CBook [a0] = (g_law CBook [.im a0, .no, .no, .no, .no, .no, .no, .no, .no, .no, .no, .no, .no, .no, .no]).fn := rfl
end K40
end
section
/-! k40, the plain law: cells, orders, ranks. -/
namespace K40
open PySem Pu
theorem sIf_ok {t : PT'} {a b : SS} {ρ : Rho} {c : Bool} (h : t ρ = .ok c) : sIf t a b ρ = if c then a ρ else b ρ := by
  cases c with
  | false => exact sIf_f h
  | true => exact sIf_t h
theorem oIx_scr {ns : List Int} {k : Int} (h0 : 0 ≤ k) (h1 : k < ns.length) : ∃ x, oIx (.scr ns) (.int k) = some (.int x) := by
  refine ⟨ns[k.toNat]'(by omega), ?_⟩
  show (ixD ns.length k).bind _ = _
  unfold ixD
  rw [if_pos h0, if_pos h1]
  show (ns[k.toNat]?).map D.int = _
  rw [List.getElem?_eq_getElem]; rfl
theorem cell_tail (R : SS → SS) (ns : List Int) (k x : Int) (h : 0 ≤ k) (hx : 0 ≤ x) : ∃ c : Int, 0 ≤ c ∧ (sSeq (sAsg (gN 2) (p2 oMod (pN oInt1 [(p2 oAdd (p2 oAdd (p2 oMul (pB 2) (pC (.int 48271))) (p2 oMul (pC (.int 11)) (pB 1))) (pC (.int 7)))]) (pC (.int 2147483647))))
  (sRet (p2 oDiv (p2 oMod (pN oInt1 [(p2 oMul (p2 oAdd (p2 oAdd (p2 oMul (pB 2) (pB 2)) (p2 oMul (pC (.int 69621)) (pB 2))) (pB 1)) (pC (.int 1000000000039)))]) (pC (.int 2305843009213693951))) (pC (.int 2))))) [.im (.scr ns), .im (.int k), .im (.int x)] = .ret (.val (.int c)) := by
  have y0 : 0 ≤ (x * 48271 + 11 * k + 7) % 2147483647 := Int.emod_nonneg _ (by decide)
  have y1 : (x * 48271 + 11 * k + 7) % 2147483647 < 2147483647 := Int.emod_lt_of_pos _ (by decide)
  rw [sSeq_nx (ρ' := [.im (.scr ns), .im (.int k), .im (.int ((x * 48271 + 11 * k + 7) % 2147483647))]) (by simp only [pV0, pB0, pB0m, pVs, pBs, k_bind, k_of, k_opS, k_pC, k_p1, k_p2, k_pN, k_fN, k_args0, k_args, k_pOfF, k_sAsg, k_sAsgF, k_sRet, k_sRetF, k_sNx, k_tOf, k_bl, k_tNot, k_iRg, k_iSq, k_lst, k_tup, k_tux, k_pCall, k_fCall, k_valv, k_valf, k_newf, k_add, k_sub, k_lt, k_le, k_gt, k_ge, oEq_int, oNe_int, k_int1, k_abs, k_lens, k_lenl, k_lent, k_lenx, k_set0, k_sets, k_nil]; rw [oMul_r (by decide) (by decide), oMul_l (by decide) (by decide)]; simp only [pV0, pB0, pB0m, pVs, pBs, k_bind, k_of, k_opS, k_pC, k_p1, k_p2, k_pN, k_fN, k_args0, k_args, k_pOfF, k_sAsg, k_sAsgF, k_sRet, k_sRetF, k_sNx, k_tOf, k_bl, k_tNot, k_iRg, k_iSq, k_lst, k_tup, k_tux, k_pCall, k_fCall, k_valv, k_valf, k_newf, k_add, k_sub, k_lt, k_le, k_gt, k_ge, oEq_int, oNe_int, k_int1, k_abs, k_lens, k_lenl, k_lent, k_lenx, k_set0, k_sets, k_nil]; rw [oMod_pos (by decide)]; simp only [pV0, pB0, pB0m, pVs, pBs, k_bind, k_of, k_opS, k_pC, k_p1, k_p2, k_pN, k_fN, k_args0, k_args, k_pOfF, k_sAsg, k_sAsgF, k_sRet, k_sRetF, k_sNx, k_tOf, k_bl, k_tNot, k_iRg, k_iSq, k_lst, k_tup, k_tux, k_pCall, k_fCall, k_valv, k_valf, k_newf, k_add, k_sub, k_lt, k_le, k_gt, k_ge, oEq_int, oNe_int, k_int1, k_abs, k_lens, k_lenl, k_lent, k_lenx, k_set0, k_sets, k_nil])]
  generalize (x * 48271 + 11 * k + 7) % 2147483647 = y at y0 y1
  refine ⟨((y * y + 69621 * y + k) * 1000000000039) % 2305843009213693951 / 2, Int.ediv_nonneg (Int.emod_nonneg _ (by decide)) (by decide), ?_⟩
  · simp only [pV0, pB0, pB0m, pVs, pBs, k_bind, k_of, k_opS, k_pC, k_p1, k_p2, k_pN, k_fN, k_args0, k_args, k_pOfF, k_sAsg, k_sAsgF, k_sRet, k_sRetF, k_sNx, k_tOf, k_bl, k_tNot, k_iRg, k_iSq, k_lst, k_tup, k_tux, k_pCall, k_fCall, k_valv, k_valf, k_newf, k_add, k_sub, k_lt, k_le, k_gt, k_ge, oEq_int, oNe_int, k_int1, k_abs, k_lens, k_lenl, k_lent, k_lenx, k_set0, k_sets, k_nil]
    rw [oMul_r (by omega) (by omega), oMul_l (by decide) (by decide)]
    simp only [pV0, pB0, pB0m, pVs, pBs, k_bind, k_of, k_opS, k_pC, k_p1, k_p2, k_pN, k_fN, k_args0, k_args, k_pOfF, k_sAsg, k_sAsgF, k_sRet, k_sRetF, k_sNx, k_tOf, k_bl, k_tNot, k_iRg, k_iSq, k_lst, k_tup, k_tux, k_pCall, k_fCall, k_valv, k_valf, k_newf, k_add, k_sub, k_lt, k_le, k_gt, k_ge, oEq_int, oNe_int, k_int1, k_abs, k_lens, k_lenl, k_lent, k_lenx, k_set0, k_sets, k_nil]
    rw [oMul_r (by decide) (by decide)]
    simp only [pV0, pB0, pB0m, pVs, pBs, k_bind, k_of, k_opS, k_pC, k_p1, k_p2, k_pN, k_fN, k_args0, k_args, k_pOfF, k_sAsg, k_sAsgF, k_sRet, k_sRetF, k_sNx, k_tOf, k_bl, k_tNot, k_iRg, k_iSq, k_lst, k_tup, k_tux, k_pCall, k_fCall, k_valv, k_valf, k_newf, k_add, k_sub, k_lt, k_le, k_gt, k_ge, oEq_int, oNe_int, k_int1, k_abs, k_lens, k_lenl, k_lent, k_lenx, k_set0, k_sets, k_nil]
    rw [oMod_pos (by decide)]
    simp only [pV0, pB0, pB0m, pVs, pBs, k_bind, k_of, k_opS, k_pC, k_p1, k_p2, k_pN, k_fN, k_args0, k_args, k_pOfF, k_sAsg, k_sAsgF, k_sRet, k_sRetF, k_sNx, k_tOf, k_bl, k_tNot, k_iRg, k_iSq, k_lst, k_tup, k_tux, k_pCall, k_fCall, k_valv, k_valf, k_newf, k_add, k_sub, k_lt, k_le, k_gt, k_ge, oEq_int, oNe_int, k_int1, k_abs, k_lens, k_lenl, k_lent, k_lenx, k_set0, k_sets, k_nil]
    rw [oDiv_pos (by decide) (by decide)]
    simp only [pV0, pB0, pB0m, pVs, pBs, k_bind, k_of, k_opS, k_pC, k_p1, k_p2, k_pN, k_fN, k_args0, k_args, k_pOfF, k_sAsg, k_sAsgF, k_sRet, k_sRetF, k_sNx, k_tOf, k_bl, k_tNot, k_iRg, k_iSq, k_lst, k_tup, k_tux, k_pCall, k_fCall, k_valv, k_valf, k_newf, k_add, k_sub, k_lt, k_le, k_gt, k_ge, oEq_int, oNe_int, k_int1, k_abs, k_lens, k_lenl, k_lent, k_lenx, k_set0, k_sets, k_nil]
theorem sSeq_fn {a b : SS} {ρ : Rho} : sSeq a b ρ = (match a ρ with | .nx ρ' => b ρ' | o => o) := rfl
theorem cell_ok (C : Nat) (ns : List Int) (k : Int) (h : 0 ≤ k) : ∃ c : Int, 0 ≤ c ∧ F__law_cell C [.scr ns, .int k] = .ret (.val (.int c)) := by
  rw [e__law_cell]
  unfold g__law_cell
  rw [sSeq_nx (ρ' := [.im (.scr ns), .im (.int k), .im (.int (17 * k + 5))]) (by simp only [pV0, pB0, pB0m, pVs, pBs, k_bind, k_of, k_opS, k_pC, k_p1, k_p2, k_pN, k_fN, k_args0, k_args, k_pOfF, k_sAsg, k_sAsgF, k_sRet, k_sRetF, k_sNx, k_tOf, k_bl, k_tNot, k_iRg, k_iSq, k_lst, k_tup, k_tux, k_pCall, k_fCall, k_valv, k_valf, k_newf, k_add, k_sub, k_lt, k_le, k_gt, k_ge, oEq_int, oNe_int, k_int1, k_abs, k_lens, k_lenl, k_lent, k_lenx, k_set0, k_sets, k_nil]; rw [oMul_l (by decide) (by decide)]; simp only [pV0, pB0, pB0m, pVs, pBs, k_bind, k_of, k_opS, k_pC, k_p1, k_p2, k_pN, k_fN, k_args0, k_args, k_pOfF, k_sAsg, k_sAsgF, k_sRet, k_sRetF, k_sNx, k_tOf, k_bl, k_tNot, k_iRg, k_iSq, k_lst, k_tup, k_tux, k_pCall, k_fCall, k_valv, k_valf, k_newf, k_add, k_sub, k_lt, k_le, k_gt, k_ge, oEq_int, oNe_int, k_int1, k_abs, k_lens, k_lenl, k_lent, k_lenx, k_set0, k_sets, k_nil])]
  have fin : ∀ {o : OS} {c : Int}, 0 ≤ c ∧ o = .ret (.val (.int c)) → 0 ≤ c ∧ o.fn = .ret (.val (.int c)) := fun {o c} ⟨a, b⟩ => ⟨a, by rw [b]; rfl⟩
  have p10 : oPow (.int 10) (.int 18) = some (.int (10 ^ 18)) := rfl
  by_cases c1 : k < (ns.length : Int)
  · obtain ⟨x, hx⟩ := oIx_scr h c1
    by_cases c2 : (if x < 0 then -x else x) ≥ 10 ^ 18
    · refine ⟨(if x < 0 then -x else x) - 10 ^ 18, by omega, ?_⟩
      rw [sSeq_ret (r := .val (.int ((if x < 0 then -x else x) - 10 ^ 18)))]
      · rfl
      · rw [sIf_t (by simp only [pV0, pB0, pB0m, pVs, pBs, k_bind, k_of, k_opS, k_pC, k_p1, k_p2, k_pN, k_fN, k_args0, k_args, k_pOfF, k_sAsg, k_sAsgF, k_sRet, k_sRetF, k_sNx, k_tOf, k_bl, k_tNot, k_iRg, k_iSq, k_lst, k_tup, k_tux, k_pCall, k_fCall, k_valv, k_valf, k_newf, k_add, k_sub, k_lt, k_le, k_gt, k_ge, oEq_int, oNe_int, k_int1, k_abs, k_lens, k_lenl, k_lent, k_lenx, k_set0, k_sets, k_nil]; rw [decide_eq_true c1])]
        rw [sSeq_nx (ρ' := [.im (.scr ns), .im (.int k), .im (.int (if x < 0 then -x else x))]) (by simp only [pV0, pB0, pB0m, pVs, pBs, k_bind, k_of, k_opS, k_pC, k_p1, k_p2, k_pN, k_fN, k_args0, k_args, k_pOfF, k_sAsg, k_sAsgF, k_sRet, k_sRetF, k_sNx, k_tOf, k_bl, k_tNot, k_iRg, k_iSq, k_lst, k_tup, k_tux, k_pCall, k_fCall, k_valv, k_valf, k_newf, k_add, k_sub, k_lt, k_le, k_gt, k_ge, oEq_int, oNe_int, k_int1, k_abs, k_lens, k_lenl, k_lent, k_lenx, k_set0, k_sets, k_nil]; rw [hx]; simp only [pV0, pB0, pB0m, pVs, pBs, k_bind, k_of, k_opS, k_pC, k_p1, k_p2, k_pN, k_fN, k_args0, k_args, k_pOfF, k_sAsg, k_sAsgF, k_sRet, k_sRetF, k_sNx, k_tOf, k_bl, k_tNot, k_iRg, k_iSq, k_lst, k_tup, k_tux, k_pCall, k_fCall, k_valv, k_valf, k_newf, k_add, k_sub, k_lt, k_le, k_gt, k_ge, oEq_int, oNe_int, k_int1, k_abs, k_lens, k_lenl, k_lent, k_lenx, k_set0, k_sets, k_nil])]
        rw [sIf_t (by simp only [pV0, pB0, pB0m, pVs, pBs, k_bind, k_of, k_opS, k_pC, k_p1, k_p2, k_pN, k_fN, k_args0, k_args, k_pOfF, k_sAsg, k_sAsgF, k_sRet, k_sRetF, k_sNx, k_tOf, k_bl, k_tNot, k_iRg, k_iSq, k_lst, k_tup, k_tux, k_pCall, k_fCall, k_valv, k_valf, k_newf, k_add, k_sub, k_lt, k_le, k_gt, k_ge, oEq_int, oNe_int, k_int1, k_abs, k_lens, k_lenl, k_lent, k_lenx, k_set0, k_sets, k_nil]; rw [p10]; simp only [pV0, pB0, pB0m, pVs, pBs, k_bind, k_of, k_opS, k_pC, k_p1, k_p2, k_pN, k_fN, k_args0, k_args, k_pOfF, k_sAsg, k_sAsgF, k_sRet, k_sRetF, k_sNx, k_tOf, k_bl, k_tNot, k_iRg, k_iSq, k_lst, k_tup, k_tux, k_pCall, k_fCall, k_valv, k_valf, k_newf, k_add, k_sub, k_lt, k_le, k_gt, k_ge, oEq_int, oNe_int, k_int1, k_abs, k_lens, k_lenl, k_lent, k_lenx, k_set0, k_sets, k_nil]; rw [decide_eq_true (by omega)])]
        simp only [pV0, pB0, pB0m, pVs, pBs, k_bind, k_of, k_opS, k_pC, k_p1, k_p2, k_pN, k_fN, k_args0, k_args, k_pOfF, k_sAsg, k_sAsgF, k_sRet, k_sRetF, k_sNx, k_tOf, k_bl, k_tNot, k_iRg, k_iSq, k_lst, k_tup, k_tux, k_pCall, k_fCall, k_valv, k_valf, k_newf, k_add, k_sub, k_lt, k_le, k_gt, k_ge, oEq_int, oNe_int, k_int1, k_abs, k_lens, k_lenl, k_lent, k_lenx, k_set0, k_sets, k_nil]
        rw [p10]
        simp only [pV0, pB0, pB0m, pVs, pBs, k_bind, k_of, k_opS, k_pC, k_p1, k_p2, k_pN, k_fN, k_args0, k_args, k_pOfF, k_sAsg, k_sAsgF, k_sRet, k_sRetF, k_sNx, k_tOf, k_bl, k_tNot, k_iRg, k_iSq, k_lst, k_tup, k_tux, k_pCall, k_fCall, k_valv, k_valf, k_newf, k_add, k_sub, k_lt, k_le, k_gt, k_ge, oEq_int, oNe_int, k_int1, k_abs, k_lens, k_lenl, k_lent, k_lenx, k_set0, k_sets, k_nil]
    · rw [sSeq_nx (ρ' := [.im (.scr ns), .im (.int k), .im (.int (if x < 0 then -x else x))])]
      · obtain ⟨c, hc⟩ := cell_tail id ns k (if x < 0 then -x else x) h (by split <;> omega)
        exact ⟨c, fin hc⟩
      · rw [sIf_t (by simp only [pV0, pB0, pB0m, pVs, pBs, k_bind, k_of, k_opS, k_pC, k_p1, k_p2, k_pN, k_fN, k_args0, k_args, k_pOfF, k_sAsg, k_sAsgF, k_sRet, k_sRetF, k_sNx, k_tOf, k_bl, k_tNot, k_iRg, k_iSq, k_lst, k_tup, k_tux, k_pCall, k_fCall, k_valv, k_valf, k_newf, k_add, k_sub, k_lt, k_le, k_gt, k_ge, oEq_int, oNe_int, k_int1, k_abs, k_lens, k_lenl, k_lent, k_lenx, k_set0, k_sets, k_nil]; rw [decide_eq_true c1])]
        rw [sSeq_nx (ρ' := [.im (.scr ns), .im (.int k), .im (.int (if x < 0 then -x else x))]) (by simp only [pV0, pB0, pB0m, pVs, pBs, k_bind, k_of, k_opS, k_pC, k_p1, k_p2, k_pN, k_fN, k_args0, k_args, k_pOfF, k_sAsg, k_sAsgF, k_sRet, k_sRetF, k_sNx, k_tOf, k_bl, k_tNot, k_iRg, k_iSq, k_lst, k_tup, k_tux, k_pCall, k_fCall, k_valv, k_valf, k_newf, k_add, k_sub, k_lt, k_le, k_gt, k_ge, oEq_int, oNe_int, k_int1, k_abs, k_lens, k_lenl, k_lent, k_lenx, k_set0, k_sets, k_nil]; rw [hx]; simp only [pV0, pB0, pB0m, pVs, pBs, k_bind, k_of, k_opS, k_pC, k_p1, k_p2, k_pN, k_fN, k_args0, k_args, k_pOfF, k_sAsg, k_sAsgF, k_sRet, k_sRetF, k_sNx, k_tOf, k_bl, k_tNot, k_iRg, k_iSq, k_lst, k_tup, k_tux, k_pCall, k_fCall, k_valv, k_valf, k_newf, k_add, k_sub, k_lt, k_le, k_gt, k_ge, oEq_int, oNe_int, k_int1, k_abs, k_lens, k_lenl, k_lent, k_lenx, k_set0, k_sets, k_nil])]
        rw [sIf_f (by simp only [pV0, pB0, pB0m, pVs, pBs, k_bind, k_of, k_opS, k_pC, k_p1, k_p2, k_pN, k_fN, k_args0, k_args, k_pOfF, k_sAsg, k_sAsgF, k_sRet, k_sRetF, k_sNx, k_tOf, k_bl, k_tNot, k_iRg, k_iSq, k_lst, k_tup, k_tux, k_pCall, k_fCall, k_valv, k_valf, k_newf, k_add, k_sub, k_lt, k_le, k_gt, k_ge, oEq_int, oNe_int, k_int1, k_abs, k_lens, k_lenl, k_lent, k_lenx, k_set0, k_sets, k_nil]; rw [p10]; simp only [pV0, pB0, pB0m, pVs, pBs, k_bind, k_of, k_opS, k_pC, k_p1, k_p2, k_pN, k_fN, k_args0, k_args, k_pOfF, k_sAsg, k_sAsgF, k_sRet, k_sRetF, k_sNx, k_tOf, k_bl, k_tNot, k_iRg, k_iSq, k_lst, k_tup, k_tux, k_pCall, k_fCall, k_valv, k_valf, k_newf, k_add, k_sub, k_lt, k_le, k_gt, k_ge, oEq_int, oNe_int, k_int1, k_abs, k_lens, k_lenl, k_lent, k_lenx, k_set0, k_sets, k_nil]; rw [decide_eq_false (by omega)])]
        rfl
  · by_cases c2 : (0 : Int) < ns.length
    · obtain ⟨x, hx⟩ := oIx_scr (ns := ns) (k := k % ns.length) (Int.emod_nonneg _ (by omega)) (Int.emod_lt_of_pos _ c2)
      rw [sSeq_nx (ρ' := [.im (.scr ns), .im (.int k), .im (.int ((if x < 0 then -x else x) + 101 * k))])]
      · obtain ⟨c, hc⟩ := cell_tail id ns k ((if x < 0 then -x else x) + 101 * k) h (by split <;> omega)
        exact ⟨c, fin hc⟩
      · rw [sIf_f (by simp only [pV0, pB0, pB0m, pVs, pBs, k_bind, k_of, k_opS, k_pC, k_p1, k_p2, k_pN, k_fN, k_args0, k_args, k_pOfF, k_sAsg, k_sAsgF, k_sRet, k_sRetF, k_sNx, k_tOf, k_bl, k_tNot, k_iRg, k_iSq, k_lst, k_tup, k_tux, k_pCall, k_fCall, k_valv, k_valf, k_newf, k_add, k_sub, k_lt, k_le, k_gt, k_ge, oEq_int, oNe_int, k_int1, k_abs, k_lens, k_lenl, k_lent, k_lenx, k_set0, k_sets, k_nil]; rw [decide_eq_false c1])]
        rw [sIf_t (by simp only [pV0, pB0, pB0m, pVs, pBs, k_bind, k_of, k_opS, k_pC, k_p1, k_p2, k_pN, k_fN, k_args0, k_args, k_pOfF, k_sAsg, k_sAsgF, k_sRet, k_sRetF, k_sNx, k_tOf, k_bl, k_tNot, k_iRg, k_iSq, k_lst, k_tup, k_tux, k_pCall, k_fCall, k_valv, k_valf, k_newf, k_add, k_sub, k_lt, k_le, k_gt, k_ge, oEq_int, oNe_int, k_int1, k_abs, k_lens, k_lenl, k_lent, k_lenx, k_set0, k_sets, k_nil]; rw [decide_eq_true c2])]
        simp only [pV0, pB0, pB0m, pVs, pBs, k_bind, k_of, k_opS, k_pC, k_p1, k_p2, k_pN, k_fN, k_args0, k_args, k_pOfF, k_sAsg, k_sAsgF, k_sRet, k_sRetF, k_sNx, k_tOf, k_bl, k_tNot, k_iRg, k_iSq, k_lst, k_tup, k_tux, k_pCall, k_fCall, k_valv, k_valf, k_newf, k_add, k_sub, k_lt, k_le, k_gt, k_ge, oEq_int, oNe_int, k_int1, k_abs, k_lens, k_lenl, k_lent, k_lenx, k_set0, k_sets, k_nil]
        rw [oMod_pos c2]
        simp only [pV0, pB0, pB0m, pVs, pBs, k_bind, k_of, k_opS, k_pC, k_p1, k_p2, k_pN, k_fN, k_args0, k_args, k_pOfF, k_sAsg, k_sAsgF, k_sRet, k_sRetF, k_sNx, k_tOf, k_bl, k_tNot, k_iRg, k_iSq, k_lst, k_tup, k_tux, k_pCall, k_fCall, k_valv, k_valf, k_newf, k_add, k_sub, k_lt, k_le, k_gt, k_ge, oEq_int, oNe_int, k_int1, k_abs, k_lens, k_lenl, k_lent, k_lenx, k_set0, k_sets, k_nil]
        rw [hx, oMul_l (by decide) (by decide)]
        simp only [pV0, pB0, pB0m, pVs, pBs, k_bind, k_of, k_opS, k_pC, k_p1, k_p2, k_pN, k_fN, k_args0, k_args, k_pOfF, k_sAsg, k_sAsgF, k_sRet, k_sRetF, k_sNx, k_tOf, k_bl, k_tNot, k_iRg, k_iSq, k_lst, k_tup, k_tux, k_pCall, k_fCall, k_valv, k_valf, k_newf, k_add, k_sub, k_lt, k_le, k_gt, k_ge, oEq_int, oNe_int, k_int1, k_abs, k_lens, k_lenl, k_lent, k_lenx, k_set0, k_sets, k_nil]
    · rw [sSeq_nx (ρ' := [.im (.scr ns), .im (.int k), .im (.int (17 * k + 5))])]
      · obtain ⟨c, hc⟩ := cell_tail id ns k (17 * k + 5) h (by omega)
        exact ⟨c, fin hc⟩
      · rw [sIf_f (by simp only [pV0, pB0, pB0m, pVs, pBs, k_bind, k_of, k_opS, k_pC, k_p1, k_p2, k_pN, k_fN, k_args0, k_args, k_pOfF, k_sAsg, k_sAsgF, k_sRet, k_sRetF, k_sNx, k_tOf, k_bl, k_tNot, k_iRg, k_iSq, k_lst, k_tup, k_tux, k_pCall, k_fCall, k_valv, k_valf, k_newf, k_add, k_sub, k_lt, k_le, k_gt, k_ge, oEq_int, oNe_int, k_int1, k_abs, k_lens, k_lenl, k_lent, k_lenx, k_set0, k_sets, k_nil]; rw [decide_eq_false c1])]
        rw [sIf_f (by simp only [pV0, pB0, pB0m, pVs, pBs, k_bind, k_of, k_opS, k_pC, k_p1, k_p2, k_pN, k_fN, k_args0, k_args, k_pOfF, k_sAsg, k_sAsgF, k_sRet, k_sRetF, k_sNx, k_tOf, k_bl, k_tNot, k_iRg, k_iSq, k_lst, k_tup, k_tux, k_pCall, k_fCall, k_valv, k_valf, k_newf, k_add, k_sub, k_lt, k_le, k_gt, k_ge, oEq_int, oNe_int, k_int1, k_abs, k_lens, k_lenl, k_lent, k_lenx, k_set0, k_sets, k_nil]; rw [decide_eq_false c2])]
        rfl
end K40
end
section
namespace K40
open PySem Pu
theorem order_ok (C : Nat) (c : Int) (n : Nat) (hc : 0 ≤ c) (hn : n ≤ 1000) : ∃ p : List Int, p.Perm (intR n) ∧ F__law_order C [.int c, .int n] = .ret (.fresh (p.map .int)) := by
  have hl : line = 16777216 := rfl
  rw [e__law_order]
  unfold g__law_order
  rw [sSeq_nx (ρ' := [.im (.int c), .im (.int n), .ml ((intR n).map .int), .no, .no, .no]) (by simp only [pV0, pB0, pB0m, pVs, pBs, k_bind, k_of, k_opS, k_pC, k_p1, k_p2, k_pN, k_fN, k_args0, k_args, k_pOfF, k_sAsg, k_sAsgF, k_sRet, k_sRetF, k_sNx, k_tOf, k_bl, k_tNot, k_iRg, k_iSq, k_lst, k_tup, k_tux, k_pCall, k_fCall, k_valv, k_valf, k_newf, k_add, k_sub, k_lt, k_le, k_gt, k_ge, oEq_int, oNe_int, k_int1, k_abs, k_lens, k_lenl, k_lent, k_lenx, k_set0, k_sets, k_nil]; rw [oRange1 (by omega)]; simp only [pV0, pB0, pB0m, pVs, pBs, k_bind, k_of, k_opS, k_pC, k_p1, k_p2, k_pN, k_fN, k_args0, k_args, k_pOfF, k_sAsg, k_sAsgF, k_sRet, k_sRetF, k_sNx, k_tOf, k_bl, k_tNot, k_iRg, k_iSq, k_lst, k_tup, k_tux, k_pCall, k_fCall, k_valv, k_valf, k_newf, k_add, k_sub, k_lt, k_le, k_gt, k_ge, oEq_int, oNe_int, k_int1, k_abs, k_lens, k_lenl, k_lent, k_lenx, k_set0, k_sets, k_nil])]
  rw [sSeq_nx (ρ' := [.im (.int c), .im (.int n), .ml ((intR n).map .int), .ml [], .no, .no]) (by simp only [pV0, pB0, pB0m, pVs, pBs, k_bind, k_of, k_opS, k_pC, k_p1, k_p2, k_pN, k_fN, k_args0, k_args, k_pOfF, k_sAsg, k_sAsgF, k_sRet, k_sRetF, k_sNx, k_tOf, k_bl, k_tNot, k_iRg, k_iSq, k_lst, k_tup, k_tux, k_pCall, k_fCall, k_valv, k_valf, k_newf, k_add, k_sub, k_lt, k_le, k_gt, k_ge, oEq_int, oNe_int, k_int1, k_abs, k_lens, k_lenl, k_lent, k_lenx, k_set0, k_sets, k_nil])]
  obtain ⟨ρ', h1, h2⟩ := sFor_inv (g := gN 4) (it := iRg [(pV 1)]) (b := (sSeq (sAsg (gN 5) (p2 oSub (pB 1) (pB 4)))
    (sSeq (sAppE 3 (ePopAt 2 (p2 oMod (pN oInt1 [(pB 0)]) (pB 5)))) (sAsg (gN 0) (p2 oDiv (pB 0) (pB 5)))))) (ρ := [.im (.int c), .im (.int n), .ml ((intR n).map .int), .ml [], .no, .no]) D.int
    (fun pre ρ => ∃ (c' : Int) (left row : List Int) (a b : S), ρ = [.im (.int c'), .im (.int n), .ml (left.map .int), .ml (row.map .int), a, b] ∧ 0 ≤ c' ∧ left.length + pre.length = n ∧ row.length = pre.length ∧ (row ++ left).Perm (intR n))
    (intR n) (by unfold iRg; simp only [pV0, pB0, pB0m, pVs, pBs, k_bind, k_of, k_opS, k_pC, k_p1, k_p2, k_pN, k_fN, k_args0, k_args, k_pOfF, k_sAsg, k_sAsgF, k_sRet, k_sRetF, k_sNx, k_tOf, k_bl, k_tNot, k_iRg, k_iSq, k_lst, k_tup, k_tux, k_pCall, k_fCall, k_valv, k_valf, k_newf, k_add, k_sub, k_lt, k_le, k_gt, k_ge, oEq_int, oNe_int, k_int1, k_abs, k_lens, k_lenl, k_lent, k_lenx, k_set0, k_sets, k_nil]; rw [oRange1 (by omega)]; rfl) ⟨c, intR n, [], _, _, rfl, hc, by rw [intR_len]; rfl, rfl, .refl _⟩ (by
      rintro pre x post ρ e ⟨c', left, row, a, b, rfl, h3, h4, h5, h6⟩
      obtain ⟨rfl, hlt⟩ := intR_split e
      have hs : (n : Int) - pre.length = (left.length : Int) := by omega
      have i0 : 0 ≤ c' % (left.length : Int) := Int.emod_nonneg _ (by omega)
      have i1 : c' % (left.length : Int) < left.length := Int.emod_lt_of_pos _ (by omega)
      have hk : (c' % (left.length : Int)).toNat < left.length := by omega
      obtain ⟨y, hy⟩ : ∃ y, left[(c' % (left.length : Int)).toNat]? = some y := ⟨_, List.getElem?_eq_getElem hk⟩
      refine ⟨_, [.im (.int (c' / left.length)), .im (.int n), .ml ((left.eraseIdx (c' % (left.length : Int)).toNat).map .int), .ml ((row ++ [y]).map .int), .im (.int pre.length), .im (.int left.length)], rfl, ?_, c' / left.length, left.eraseIdx (c' % (left.length : Int)).toNat, row ++ [y], _, _, rfl, Int.ediv_nonneg h3 (by omega), ?_, ?_, ?_⟩
      · rw [sSeq_nx (ρ' := [.im (.int c'), .im (.int n), .ml (left.map .int), .ml (row.map .int), .im (.int pre.length), .im (.int left.length)]) (by simp only [List.set_cons_zero, List.set_cons_succ]; simp only [pV0, pB0, pB0m, pVs, pBs, k_bind, k_of, k_opS, k_pC, k_p1, k_p2, k_pN, k_fN, k_args0, k_args, k_pOfF, k_sAsg, k_sAsgF, k_sRet, k_sRetF, k_sNx, k_tOf, k_bl, k_tNot, k_iRg, k_iSq, k_lst, k_tup, k_tux, k_pCall, k_fCall, k_valv, k_valf, k_newf, k_add, k_sub, k_lt, k_le, k_gt, k_ge, oEq_int, oNe_int, k_int1, k_abs, k_lens, k_lenl, k_lent, k_lenx, k_set0, k_sets, k_nil]; rw [hs])]
        rw [sSeq_nx (sAppE_eq (zs := row.map .int) (xs := row.map .int) (x := .int y) (ρ1 := [.im (.int c'), .im (.int n), .ml ((left.map .int).eraseIdx (c' % (left.length : Int)).toNat), .ml (row.map .int), .im (.int pre.length), .im (.int left.length)]) rfl
          (ePopAt_eq (i := c' % (left.length : Int)) (x := .int y) rfl (by simp only [pV0, pB0, pB0m, pVs, pBs, k_bind, k_of, k_opS, k_pC, k_p1, k_p2, k_pN, k_fN, k_args0, k_args, k_pOfF, k_sAsg, k_sAsgF, k_sRet, k_sRetF, k_sNx, k_tOf, k_bl, k_tNot, k_iRg, k_iSq, k_lst, k_tup, k_tux, k_pCall, k_fCall, k_valv, k_valf, k_newf, k_add, k_sub, k_lt, k_le, k_gt, k_ge, oEq_int, oNe_int, k_int1, k_abs, k_lens, k_lenl, k_lent, k_lenx, k_set0, k_sets, k_nil]; rw [oMod_pos (by omega)]; rfl) i0 (by rw [List.length_map]; exact i1) (by rw [List.length_map]; omega) (by rw [List.getElem?_map, hy]; rfl)) rfl (by rw [List.length_map]; omega))]
        simp only [List.set_cons_zero, List.set_cons_succ]
        simp only [pV0, pB0, pB0m, pVs, pBs, k_bind, k_of, k_opS, k_pC, k_p1, k_p2, k_pN, k_fN, k_args0, k_args, k_pOfF, k_sAsg, k_sAsgF, k_sRet, k_sRetF, k_sNx, k_tOf, k_bl, k_tNot, k_iRg, k_iSq, k_lst, k_tup, k_tux, k_pCall, k_fCall, k_valv, k_valf, k_newf, k_add, k_sub, k_lt, k_le, k_gt, k_ge, oEq_int, oNe_int, k_int1, k_abs, k_lens, k_lenl, k_lent, k_lenx, k_set0, k_sets, k_nil]
        rw [oDiv_pos (by omega) (by omega)]
        simp only [pV0, pB0, pB0m, pVs, pBs, k_bind, k_of, k_opS, k_pC, k_p1, k_p2, k_pN, k_fN, k_args0, k_args, k_pOfF, k_sAsg, k_sAsgF, k_sRet, k_sRetF, k_sNx, k_tOf, k_bl, k_tNot, k_iRg, k_iSq, k_lst, k_tup, k_tux, k_pCall, k_fCall, k_valv, k_valf, k_newf, k_add, k_sub, k_lt, k_le, k_gt, k_ge, oEq_int, oNe_int, k_int1, k_abs, k_lens, k_lenl, k_lent, k_lenx, k_set0, k_sets, k_nil]
        rw [List.map_append, eraseIdx_map]
        rfl
      · rw [List.length_eraseIdx, if_pos hk, List.length_append, List.length_singleton]; omega
      · rw [List.length_append, List.length_append, h5]; rfl
      · refine List.Perm.trans ?_ h6
        rw [List.append_assoc]
        refine List.Perm.append_left row ?_
        show (y :: left.eraseIdx _).Perm left
        exact erase_perm hy)
  obtain ⟨c', left, row, a, b, rfl, h3, h4, h5, h6⟩ := h2
  rw [intR_len] at h4
  have : left = [] := List.length_eq_zero_iff.mp (by omega)
  subst this
  rw [List.append_nil] at h6
  refine ⟨row, h6, ?_⟩
  rw [sSeq_nx h1]
  rfl
end K40
end
section
namespace K40
open PySem Pu
def others (v d k : Nat) : List Int := ((intR d).filter fun j => !decide (j = (k : Int))).map fun j => (v : Int) + j
def fullRow (os : List (List Int)) (v k : Nat) : List Int := [(v : Int) + k] ++ os.getD k [] ++ others v os.length k
theorem others_len (v d k : Nat) : (others v d k).length ≤ d := by
  unfold others
  rw [List.length_map]
  exact Nat.le_trans (List.length_filter_le _ _) (by rw [intR_len]; exact Nat.le_refl _)
theorem mem_others {v d k : Nat} {x : Int} : x ∈ others v d k ↔ (v : Int) ≤ x ∧ x < v + d ∧ x ≠ v + k := by
  unfold others
  rw [List.mem_map]
  constructor
  · rintro ⟨j, hj, rfl⟩
    obtain ⟨h1, h2⟩ := List.mem_filter.mp hj
    have := mem_intR.mp h1
    have h3 : j ≠ (k : Int) := by simpa using h2
    omega
  · rintro ⟨h1, h2, h3⟩
    refine ⟨x - v, List.mem_filter.mpr ⟨mem_intR.mpr (by omega), ?_⟩, by omega⟩
    have : x - v ≠ (k : Int) := by omega
    simpa using this
theorem others_nodup (v d k : Nat) : (others v d k).Nodup := by
  unfold others
  exact List.Pairwise.map _ (fun a b h => by omega) ((intR_nodup d).filter _)
structure Good (os : List (List Int)) (v d : Nat) : Prop where
  len : os.length = d
  perm : ∀ o ∈ os, o.Perm (intR v)
  d1 : 1 ≤ d
  d4 : d ≤ 4
  v1 : 1 ≤ v
  v8 : v ≤ 8
theorem Good.get {os : List (List Int)} {v d k : Nat} (G : Good os v d) (h : k < d) : ∃ o, os[k]? = some o ∧ os.getD k [] = o ∧ o.Perm (intR v) := by
  have hl : k < os.length := by rw [G.len]; exact h
  refine ⟨os[k], List.getElem?_eq_getElem hl, ?_, G.perm _ (List.getElem_mem hl)⟩
  rw [List.getD_eq_getElem?_getD, List.getElem?_eq_getElem hl]; rfl
theorem Good.mem {os : List (List Int)} {v d k : Nat} (G : Good os v d) (h : k < d) {x : Int} : x ∈ fullRow os v k ↔ 0 ≤ x ∧ x < ((v + d : Nat) : Int) := by
  obtain ⟨o, h1, h2, h3⟩ := G.get h
  unfold fullRow
  rw [h2, List.mem_append, List.mem_append, h3.mem_iff, mem_intR, mem_others, List.mem_singleton, G.len]
  omega
theorem Good.nodup {os : List (List Int)} {v d k : Nat} (G : Good os v d) (h : k < d) : (fullRow os v k).Nodup := by
  obtain ⟨o, h1, h2, h3⟩ := G.get h
  unfold fullRow
  rw [h2]
  have a1 : ∀ x ∈ o, 0 ≤ x ∧ x < (v : Int) := fun x hx => mem_intR.mp (h3.mem_iff.mp hx)
  refine List.nodup_append.mpr ⟨List.nodup_append.mpr ⟨List.pairwise_singleton _ _, h3.nodup_iff.mpr (intR_nodup v), fun a ha b hb => ?_⟩, others_nodup _ _ _, fun a ha b hb => ?_⟩
  · have := a1 b hb
    rw [List.mem_singleton.mp ha]
    omega
  · have hb' := mem_others.mp hb
    rcases List.mem_append.mp ha with ha | ha
    · rw [List.mem_singleton.mp ha]; omega
    · have := a1 a ha; omega
theorem Good.row {os : List (List Int)} {v d k : Nat} (G : Good os v d) (h : k < d) : (fullRow os v k).Perm (intR (v + d)) :=
  (List.perm_ext_iff_of_nodup (G.nodup h) (intR_nodup _)).mpr fun x => by rw [G.mem h, mem_intR]
theorem Good.rlen {os : List (List Int)} {v d k : Nat} (G : Good os v d) (h : k < d) : (fullRow os v k).length = v + d := by rw [(G.row h).length_eq, intR_len]
theorem l16 : line = 16777216 := rfl
theorem full_ok (C : Nat) {os : List (List Int)} {v d k : Nat} (G : Good os v d) (h : k < d) : F__law_full C [.lst (os.map lI), .int v, .int k] = .ret (.fresh ((fullRow os v k).map .int)) := by
  have hl := l16
  have := G.d4
  have := G.v8
  obtain ⟨o, h1, h2, h3⟩ := G.get h
  have lo : o.length = v := by rw [h3.length_eq, intR_len]
  have lt := others_len v os.length k
  have gl := G.len
  rw [e__law_full]
  unfold g__law_full
  have hc := fComp_ok (own := [3]) (g := gN 3) (it := iRg [(pN oLen [(pB 0)])]) (t := tOf (p2 oNe (pB 3) (pB 2))) (e := p2 oAdd (pB 1) (pB 3)) (ρ := [.im (.lst (os.map lI)), .im (.int v), .im (.int k), .no]) D.int (fun j => !decide (j = (k : Int))) (fun j => .int ((v : Int) + j)) (intR os.length)
    (by simp only [pV0, pB0, pB0m, pVs, pBs, k_bind, k_of, k_opS, k_pC, k_p1, k_p2, k_pN, k_fN, k_args0, k_args, k_pOfF, k_sAsg, k_sAsgF, k_sRet, k_sRetF, k_sNx, k_tOf, k_bl, k_tNot, k_iRg, k_iSq, k_lst, k_tup, k_tux, k_pCall, k_fCall, k_valv, k_valf, k_newf, k_add, k_sub, k_lt, k_le, k_gt, k_ge, oEq_int, oNe_int, k_int1, k_abs, k_lens, k_lenl, k_lent, k_lenx, k_set0, k_sets, k_nil]; rw [List.length_map, oRange1 (by omega)]; simp only [pV0, pB0, pB0m, pVs, pBs, k_bind, k_of, k_opS, k_pC, k_p1, k_p2, k_pN, k_fN, k_args0, k_args, k_pOfF, k_sAsg, k_sAsgF, k_sRet, k_sRetF, k_sNx, k_tOf, k_bl, k_tNot, k_iRg, k_iSq, k_lst, k_tup, k_tux, k_pCall, k_fCall, k_valv, k_valf, k_newf, k_add, k_sub, k_lt, k_le, k_gt, k_ge, oEq_int, oNe_int, k_int1, k_abs, k_lens, k_lenl, k_lent, k_lenx, k_set0, k_sets, k_nil]) (fun x hx => ⟨[.im (.lst (os.map lI)), .im (.int v), .im (.int k), .im (.int x)], by rw [wipe1]; rfl, by simp only [pV0, pB0, pB0m, pVs, pBs, k_bind, k_of, k_opS, k_pC, k_p1, k_p2, k_pN, k_fN, k_args0, k_args, k_pOfF, k_sAsg, k_sAsgF, k_sRet, k_sRetF, k_sNx, k_tOf, k_bl, k_tNot, k_iRg, k_iSq, k_lst, k_tup, k_tux, k_pCall, k_fCall, k_valv, k_valf, k_newf, k_add, k_sub, k_lt, k_le, k_gt, k_ge, oEq_int, oNe_int, k_int1, k_abs, k_lens, k_lenl, k_lent, k_lenx, k_set0, k_sets, k_nil], fun _ => by simp only [pV0, pB0, pB0m, pVs, pBs, k_bind, k_of, k_opS, k_pC, k_p1, k_p2, k_pN, k_fN, k_args0, k_args, k_pOfF, k_sAsg, k_sAsgF, k_sRet, k_sRetF, k_sNx, k_tOf, k_bl, k_tNot, k_iRg, k_iSq, k_lst, k_tup, k_tux, k_pCall, k_fCall, k_valv, k_valf, k_newf, k_add, k_sub, k_lt, k_le, k_gt, k_ge, oEq_int, oNe_int, k_int1, k_abs, k_lens, k_lenl, k_lent, k_lenx, k_set0, k_sets, k_nil]⟩)
  have e1 : ((intR os.length).filter fun j => !decide (j = (k : Int))).map (fun j => D.int ((v : Int) + j)) = (others v os.length k).map .int := by unfold others; rw [List.map_map]; rfl
  rw [e1] at hc
  have hi : (p2 oIx (pB 0) (pB 2)) [.im (.lst (os.map lI)), .im (.int v), .im (.int k), .no] = .ok (lI o) := by
    simp only [pV0, pB0, pB0m, pVs, pBs, k_bind, k_of, k_opS, k_pC, k_p1, k_p2, k_pN, k_fN, k_args0, k_args, k_pOfF, k_sAsg, k_sAsgF, k_sRet, k_sRetF, k_sNx, k_tOf, k_bl, k_tNot, k_iRg, k_iSq, k_lst, k_tup, k_tux, k_pCall, k_fCall, k_valv, k_valf, k_newf, k_add, k_sub, k_lt, k_le, k_gt, k_ge, oEq_int, oNe_int, k_int1, k_abs, k_lens, k_lenl, k_lent, k_lenx, k_set0, k_sets, k_nil]; rw [ix_l (d := lI o) (by rw [List.getElem?_map, h1]; rfl)]; simp only [pV0, pB0, pB0m, pVs, pBs, k_bind, k_of, k_opS, k_pC, k_p1, k_p2, k_pN, k_fN, k_args0, k_args, k_pOfF, k_sAsg, k_sAsgF, k_sRet, k_sRetF, k_sNx, k_tOf, k_bl, k_tNot, k_iRg, k_iSq, k_lst, k_tup, k_tux, k_pCall, k_fCall, k_valv, k_valf, k_newf, k_add, k_sub, k_lt, k_le, k_gt, k_ge, oEq_int, oNe_int, k_int1, k_abs, k_lens, k_lenl, k_lent, k_lenx, k_set0, k_sets, k_nil]
  have ha : (pOfF (nLst [(p2 oAdd (pB 1) (pB 2))])) [.im (.lst (os.map lI)), .im (.int v), .im (.int k), .no] = .ok (.lst [.int ((v : Int) + k)]) := by
    rw [k_pOfF, k_nLst (ds := [.int ((v : Int) + k)]) _ _ (by simp only [pV0, pB0, pB0m, pVs, pBs, k_bind, k_of, k_opS, k_pC, k_p1, k_p2, k_pN, k_fN, k_args0, k_args, k_pOfF, k_sAsg, k_sAsgF, k_sRet, k_sRetF, k_sNx, k_tOf, k_bl, k_tNot, k_iRg, k_iSq, k_lst, k_tup, k_tux, k_pCall, k_fCall, k_valv, k_valf, k_newf, k_add, k_sub, k_lt, k_le, k_gt, k_ge, oEq_int, oNe_int, k_int1, k_abs, k_lens, k_lenl, k_lent, k_lenx, k_set0, k_sets, k_nil]) (by show 1 ≤ line; omega)]; simp only [pV0, pB0, pB0m, pVs, pBs, k_bind, k_of, k_opS, k_pC, k_p1, k_p2, k_pN, k_fN, k_args0, k_args, k_pOfF, k_sAsg, k_sAsgF, k_sRet, k_sRetF, k_sNx, k_tOf, k_bl, k_tNot, k_iRg, k_iSq, k_lst, k_tup, k_tux, k_pCall, k_fCall, k_valv, k_valf, k_newf, k_add, k_sub, k_lt, k_le, k_gt, k_ge, oEq_int, oNe_int, k_int1, k_abs, k_lens, k_lenl, k_lent, k_lenx, k_set0, k_sets, k_nil]
  have hb := k_fCat ha hi (ys := o.map .int) (by rw [List.length_map, lo]; show 1 + v ≤ line; omega)
  have hd := k_fCat (pOfF_ok hb) (pOfF_ok hc) (by rw [List.length_append, List.length_map, List.length_map, lo]; show 1 + v + _ ≤ line; omega)
  rw [k_sRetF, hd]
  simp only [pV0, pB0, pB0m, pVs, pBs, k_bind, k_of, k_opS, k_pC, k_p1, k_p2, k_pN, k_fN, k_args0, k_args, k_pOfF, k_sAsg, k_sAsgF, k_sRet, k_sRetF, k_sNx, k_tOf, k_bl, k_tNot, k_iRg, k_iSq, k_lst, k_tup, k_tux, k_pCall, k_fCall, k_valv, k_valf, k_newf, k_add, k_sub, k_lt, k_le, k_gt, k_ge, oEq_int, oNe_int, k_int1, k_abs, k_lens, k_lenl, k_lent, k_lenx, k_set0, k_sets, k_nil]
  unfold fullRow
  rw [h2, List.map_append, List.map_append]
  rfl
/-- the table of a row's places -/
def tab (row : List Int) : D := lI ((intR row.length).map fun p => (row.idxOf p : Int))
theorem ranks_ok (C : Nat) {os : List (List Int)} {v d : Nat} (G : Good os v d) : F__law_ranks C [.lst (os.map lI), .int v] = .ret (.fresh ((List.range d).map fun k => tab (fullRow os v k))) := by
  have hl := l16
  have := G.d4
  have := G.v8
  have gl := G.len
  rw [e__law_ranks]
  unfold g__law_ranks
  rw [sSeq_nx (ρ' := [.im (.lst (os.map lI)), .im (.int v), .ml [], .no, .no, .no]) (by simp only [pV0, pB0, pB0m, pVs, pBs, k_bind, k_of, k_opS, k_pC, k_p1, k_p2, k_pN, k_fN, k_args0, k_args, k_pOfF, k_sAsg, k_sAsgF, k_sRet, k_sRetF, k_sNx, k_tOf, k_bl, k_tNot, k_iRg, k_iSq, k_lst, k_tup, k_tux, k_pCall, k_fCall, k_valv, k_valf, k_newf, k_add, k_sub, k_lt, k_le, k_gt, k_ge, oEq_int, oNe_int, k_int1, k_abs, k_lens, k_lenl, k_lent, k_lenx, k_set0, k_sets, k_nil])]
  obtain ⟨ρ', h1, a, b, c, rfl⟩ := sFor_inv (g := gN 3) (it := iRg [(pN oLen [(pB 0)])]) (b := (sSeq (sAsg (gN 4) (pCall (F__law_full C) [(pV 0), (pV 1), (pV 3)]))
    (sApp 2 (pOfF (fComp [5] (gN 5) (iRg [(pN oLen [(pB 4)])]) tYes (pMt isLst oIdx (pB 4) (pV 5))))))) (ρ := [.im (.lst (os.map lI)), .im (.int v), .ml [], .no, .no, .no]) D.int
    (fun pre ρ => ∃ a b c, ρ = [.im (.lst (os.map lI)), .im (.int v), .ml ((List.range pre.length).map fun k => tab (fullRow os v k)), a, b, c]) (intR d) (by simp only [pV0, pB0, pB0m, pVs, pBs, k_bind, k_of, k_opS, k_pC, k_p1, k_p2, k_pN, k_fN, k_args0, k_args, k_pOfF, k_sAsg, k_sAsgF, k_sRet, k_sRetF, k_sNx, k_tOf, k_bl, k_tNot, k_iRg, k_iSq, k_lst, k_tup, k_tux, k_pCall, k_fCall, k_valv, k_valf, k_newf, k_add, k_sub, k_lt, k_le, k_gt, k_ge, oEq_int, oNe_int, k_int1, k_abs, k_lens, k_lenl, k_lent, k_lenx, k_set0, k_sets, k_nil]; rw [List.length_map, gl, oRange1 (by omega)]; simp only [pV0, pB0, pB0m, pVs, pBs, k_bind, k_of, k_opS, k_pC, k_p1, k_p2, k_pN, k_fN, k_args0, k_args, k_pOfF, k_sAsg, k_sAsgF, k_sRet, k_sRetF, k_sNx, k_tOf, k_bl, k_tNot, k_iRg, k_iSq, k_lst, k_tup, k_tux, k_pCall, k_fCall, k_valv, k_valf, k_newf, k_add, k_sub, k_lt, k_le, k_gt, k_ge, oEq_int, oNe_int, k_int1, k_abs, k_lens, k_lenl, k_lent, k_lenx, k_set0, k_sets, k_nil]) ⟨_, _, _, rfl⟩
    (by
      rintro pre x post ρ e ⟨a, b, c, rfl⟩
      obtain ⟨rfl, hk⟩ := intR_split e
      have hr := G.rlen hk
      refine ⟨_, [.im (.lst (os.map lI)), .im (.int v), .ml ((List.range (pre.length + 1)).map fun k => tab (fullRow os v k)), .im (.int pre.length), .im (lI (fullRow os v pre.length)), c], rfl, ?_, _, _, _, by rw [List.length_append]; rfl⟩
      rw [sSeq_nx (ρ' := [.im (.lst (os.map lI)), .im (.int v), .ml ((List.range pre.length).map fun k => tab (fullRow os v k)), .im (.int pre.length), .im (lI (fullRow os v pre.length)), c]) (by simp only [k_set0, k_sets]; simp only [pV0, pB0, pB0m, pVs, pBs, k_bind, k_of, k_opS, k_pC, k_p1, k_p2, k_pN, k_fN, k_args0, k_args, k_pOfF, k_sAsg, k_sAsgF, k_sRet, k_sRetF, k_sNx, k_tOf, k_bl, k_tNot, k_iRg, k_iSq, k_lst, k_tup, k_tux, k_pCall, k_fCall, k_valv, k_valf, k_newf, k_add, k_sub, k_lt, k_le, k_gt, k_ge, oEq_int, oNe_int, k_int1, k_abs, k_lens, k_lenl, k_lent, k_lenx, k_set0, k_sets, k_nil]; rw [full_ok C G hk]; simp only [pV0, pB0, pB0m, pVs, pBs, k_bind, k_of, k_opS, k_pC, k_p1, k_p2, k_pN, k_fN, k_args0, k_args, k_pOfF, k_sAsg, k_sAsgF, k_sRet, k_sRetF, k_sNx, k_tOf, k_bl, k_tNot, k_iRg, k_iSq, k_lst, k_tup, k_tux, k_pCall, k_fCall, k_valv, k_valf, k_newf, k_add, k_sub, k_lt, k_le, k_gt, k_ge, oEq_int, oNe_int, k_int1, k_abs, k_lens, k_lenl, k_lent, k_lenx, k_set0, k_sets, k_nil]; rfl)]
      have hc := fComp_all (own := [5]) (g := gN 5) (it := iRg [(pN oLen [(pB 4)])]) (e := pMt isLst oIdx (pB 4) (pV 5)) (ρ := [.im (.lst (os.map lI)), .im (.int v), .ml ((List.range pre.length).map fun k => tab (fullRow os v k)), .im (.int pre.length), .im (lI (fullRow os v pre.length)), c]) D.int (fun p => .int ((fullRow os v pre.length).idxOf p)) (intR (v + d))
        (by simp only [pV0, pB0, pB0m, pVs, pBs, k_bind, k_of, k_opS, k_pC, k_p1, k_p2, k_pN, k_fN, k_args0, k_args, k_pOfF, k_sAsg, k_sAsgF, k_sRet, k_sRetF, k_sNx, k_tOf, k_bl, k_tNot, k_iRg, k_iSq, k_lst, k_tup, k_tux, k_pCall, k_fCall, k_valv, k_valf, k_newf, k_add, k_sub, k_lt, k_le, k_gt, k_ge, oEq_int, oNe_int, k_int1, k_abs, k_lens, k_lenl, k_lent, k_lenx, k_set0, k_sets, k_nil]; unfold lI; simp only [pV0, pB0, pB0m, pVs, pBs, k_bind, k_of, k_opS, k_pC, k_p1, k_p2, k_pN, k_fN, k_args0, k_args, k_pOfF, k_sAsg, k_sAsgF, k_sRet, k_sRetF, k_sNx, k_tOf, k_bl, k_tNot, k_iRg, k_iSq, k_lst, k_tup, k_tux, k_pCall, k_fCall, k_valv, k_valf, k_newf, k_add, k_sub, k_lt, k_le, k_gt, k_ge, oEq_int, oNe_int, k_int1, k_abs, k_lens, k_lenl, k_lent, k_lenx, k_set0, k_sets, k_nil]; rw [List.length_map, hr, oRange1 (by omega)]; simp only [pV0, pB0, pB0m, pVs, pBs, k_bind, k_of, k_opS, k_pC, k_p1, k_p2, k_pN, k_fN, k_args0, k_args, k_pOfF, k_sAsg, k_sAsgF, k_sRet, k_sRetF, k_sNx, k_tOf, k_bl, k_tNot, k_iRg, k_iSq, k_lst, k_tup, k_tux, k_pCall, k_fCall, k_valv, k_valf, k_newf, k_add, k_sub, k_lt, k_le, k_gt, k_ge, oEq_int, oNe_int, k_int1, k_abs, k_lens, k_lenl, k_lent, k_lenx, k_set0, k_sets, k_nil]) (fun p hp => ⟨[.im (.lst (os.map lI)), .im (.int v), .ml ((List.range pre.length).map fun k => tab (fullRow os v k)), .im (.int pre.length), .im (lI (fullRow os v pre.length)), .im (.int p)], by rw [wipe1]; rfl,
          k_pMt (d := lI (fullRow os v pre.length)) (y := .int p) (by simp only [pV0, pB0, pB0m, pVs, pBs, k_bind, k_of, k_opS, k_pC, k_p1, k_p2, k_pN, k_fN, k_args0, k_args, k_pOfF, k_sAsg, k_sAsgF, k_sRet, k_sRetF, k_sNx, k_tOf, k_bl, k_tNot, k_iRg, k_iSq, k_lst, k_tup, k_tux, k_pCall, k_fCall, k_valv, k_valf, k_newf, k_add, k_sub, k_lt, k_le, k_gt, k_ge, oEq_int, oNe_int, k_int1, k_abs, k_lens, k_lenl, k_lent, k_lenx, k_set0, k_sets, k_nil]) rfl (by simp only [pV0, pB0, pB0m, pVs, pBs, k_bind, k_of, k_opS, k_pC, k_p1, k_p2, k_pN, k_fN, k_args0, k_args, k_pOfF, k_sAsg, k_sAsgF, k_sRet, k_sRetF, k_sNx, k_tOf, k_bl, k_tNot, k_iRg, k_iSq, k_lst, k_tup, k_tux, k_pCall, k_fCall, k_valv, k_valf, k_newf, k_add, k_sub, k_lt, k_le, k_gt, k_ge, oEq_int, oNe_int, k_int1, k_abs, k_lens, k_lenl, k_lent, k_lenx, k_set0, k_sets, k_nil]) (idx_l ((G.row hk).mem_iff.mpr hp))⟩)
      rw [sApp_eq (xs := (List.range pre.length).map fun k => tab (fullRow os v k)) (d := tab (fullRow os v pre.length)) rfl (by rw [k_pOfF, hc]; simp only [pV0, pB0, pB0m, pVs, pBs, k_bind, k_of, k_opS, k_pC, k_p1, k_p2, k_pN, k_fN, k_args0, k_args, k_pOfF, k_sAsg, k_sAsgF, k_sRet, k_sRetF, k_sNx, k_tOf, k_bl, k_tNot, k_iRg, k_iSq, k_lst, k_tup, k_tux, k_pCall, k_fCall, k_valv, k_valf, k_newf, k_add, k_sub, k_lt, k_le, k_gt, k_ge, oEq_int, oNe_int, k_int1, k_abs, k_lens, k_lenl, k_lent, k_lenx, k_set0, k_sets, k_nil]; unfold tab lI; rw [hr, List.map_map]; rfl) (by rw [List.length_map, List.length_range]; omega)]
      simp only [k_set0, k_sets]
      rw [List.range_succ, List.map_append]
      rfl)
  rw [sSeq_nx h1]
  rw [intR_len]
  rfl
end K40
end
section
namespace K40
open PySem Pu
def subs : Nat → List Int → List (List Int)
  | 0, _ => [[]]
  | s + 1, items => (List.range (items.length - s)).flatMap fun k => (subs s (items.drop (k + 1))).map fun r => items.getD k 0 :: r
theorem subs_len : ∀ (s : Nat) (items : List Int), items.length ≤ 12 → (subs s items).length ≤ 12 ^ s
  | 0, _, _ => Nat.le_refl _
  | s + 1, items, h => by
    show (List.flatMap _ _).length ≤ _
    refine Nat.le_trans (flat_len (B := 12 ^ s) fun k hk => ?_) ?_
    · rw [List.length_map]
      exact subs_len s _ (by rw [List.length_drop]; omega)
    · rw [List.length_range, Nat.pow_succ, Nat.mul_comm]
      exact Nat.mul_le_mul_left _ (by omega)
theorem subs_rlen : ∀ (s : Nat) (items r : List Int), r ∈ subs s items → r.length = s
  | 0, items, r, h => by
    have : r = [] := List.mem_singleton.mp h
    rw [this]; rfl
  | s + 1, items, r, h => by
    obtain ⟨k, _, h2⟩ := List.mem_flatMap.mp (show r ∈ (List.range (items.length - s)).flatMap _ from h)
    obtain ⟨q, h3, rfl⟩ := List.mem_map.mp h2
    rw [List.length_cons, subs_rlen s _ q h3]
theorem same_rooms (C : Nat) : ∀ n, F_subsets C n = F__law_rooms C n
  | 0 => rfl
  | n + 1 => by
    show runF 5 2 (g_subsets C (F_subsets C n)) = runF 5 2 (g__law_rooms C (F__law_rooms C n))
    rw [same_rooms C n]; rfl
theorem range_split {n : Nat} {pre post : List Nat} {x : Nat} (e : List.range n = pre ++ x :: post) : x = pre.length ∧ pre.length < n := by
  have hl := congrArg List.length e
  rw [List.length_range, List.length_append, List.length_cons] at hl
  have hlt : pre.length < n := by omega
  have := List.getElem?_range hlt
  rw [e, List.getElem?_append_right (Nat.le_refl _), Nat.sub_self, List.getElem?_cons_zero] at this
  exact ⟨Option.some.inj this, hlt⟩
theorem pow12 {s : Nat} (h : s ≤ 4) : 12 ^ s ≤ 20736 := Nat.le_trans (Nat.pow_le_pow_right (by decide) h) (by decide)
theorem flat_pre {α β : Type} (f : α → List β) (l pre post : List α) (e : l = pre ++ post) : (pre.flatMap f).length ≤ (l.flatMap f).length := by
  subst e; rw [List.flatMap_append, List.length_append]; exact Nat.le_add_right _ _
theorem rooms_ok (C : Nat) : ∀ (fuel s : Nat) (items : List Int), s < fuel → s ≤ items.length → items.length ≤ 12 → s ≤ 4 → F__law_rooms C fuel [tI items, .int s] = .ret (.fresh ((subs s items).map tI))
  | 0, s, items, h, _, _, _ => absurd h (Nat.not_lt_zero _)
  | fuel + 1, 0, items, _, _, _, _ => by
    rw [e__law_rooms]
    unfold g__law_rooms
    rw [sSeq_ret (r := .fresh [.tup []])]
    · rfl
    · rw [sIf_t (by simp only [pV0, pB0, pB0m, pVs, pBs, k_bind, k_of, k_opS, k_pC, k_p1, k_p2, k_pN, k_fN, k_args0, k_args, k_pOfF, k_sAsg, k_sAsgF, k_sRet, k_sRetF, k_sNx, k_tOf, k_bl, k_tNot, k_iRg, k_iSq, k_lst, k_tup, k_tux, k_pCall, k_fCall, k_valv, k_valf, k_newf, k_add, k_sub, k_lt, k_le, k_gt, k_ge, oEq_int, oNe_int, k_int1, k_abs, k_lens, k_lenl, k_lent, k_lenx, k_set0, k_sets, k_nil]; rfl), k_sRetF, k_nLst (ds := [.tup []]) _ _ ?_ (by show 1 ≤ line; decide)]
      · simp only [pV0, pB0, pB0m, pVs, pBs, k_bind, k_of, k_opS, k_pC, k_p1, k_p2, k_pN, k_fN, k_args0, k_args, k_pOfF, k_sAsg, k_sAsgF, k_sRet, k_sRetF, k_sNx, k_tOf, k_bl, k_tNot, k_iRg, k_iSq, k_lst, k_tup, k_tux, k_pCall, k_fCall, k_valv, k_valf, k_newf, k_add, k_sub, k_lt, k_le, k_gt, k_ge, oEq_int, oNe_int, k_int1, k_abs, k_lens, k_lenl, k_lent, k_lenx, k_set0, k_sets, k_nil]
      · rw [k_args, k_nTup (ds := []) _ _ (by simp only [pV0, pB0, pB0m, pVs, pBs, k_bind, k_of, k_opS, k_pC, k_p1, k_p2, k_pN, k_fN, k_args0, k_args, k_pOfF, k_sAsg, k_sAsgF, k_sRet, k_sRetF, k_sNx, k_tOf, k_bl, k_tNot, k_iRg, k_iSq, k_lst, k_tup, k_tux, k_pCall, k_fCall, k_valv, k_valf, k_newf, k_add, k_sub, k_lt, k_le, k_gt, k_ge, oEq_int, oNe_int, k_int1, k_abs, k_lens, k_lenl, k_lent, k_lenx, k_set0, k_sets, k_nil]) (by show 0 ≤ line; decide)]
        simp only [pV0, pB0, pB0m, pVs, pBs, k_bind, k_of, k_opS, k_pC, k_p1, k_p2, k_pN, k_fN, k_args0, k_args, k_pOfF, k_sAsg, k_sAsgF, k_sRet, k_sRetF, k_sNx, k_tOf, k_bl, k_tNot, k_iRg, k_iSq, k_lst, k_tup, k_tux, k_pCall, k_fCall, k_valv, k_valf, k_newf, k_add, k_sub, k_lt, k_le, k_gt, k_ge, oEq_int, oNe_int, k_int1, k_abs, k_lens, k_lenl, k_lent, k_lenx, k_set0, k_sets, k_nil]
  | fuel + 1, s + 1, items, h, hs, hn, h4 => by
    have hl := l16
    have hle := subs_len (s + 1) items hn
    have h12 := pow12 h4
    rw [e__law_rooms]
    unfold g__law_rooms
    rw [sSeq_nx (ρ' := [.im (tI items), .im (.int ((s + 1 : Nat) : Int)), .no, .no, .no]) (by
      rw [sIf_f (by simp only [pV0, pB0, pB0m, pVs, pBs, k_bind, k_of, k_opS, k_pC, k_p1, k_p2, k_pN, k_fN, k_args0, k_args, k_pOfF, k_sAsg, k_sAsgF, k_sRet, k_sRetF, k_sNx, k_tOf, k_bl, k_tNot, k_iRg, k_iSq, k_lst, k_tup, k_tux, k_pCall, k_fCall, k_valv, k_valf, k_newf, k_add, k_sub, k_lt, k_le, k_gt, k_ge, oEq_int, oNe_int, k_int1, k_abs, k_lens, k_lenl, k_lent, k_lenx, k_set0, k_sets, k_nil]; rw [decide_eq_false (by omega)])]; rfl)]
    rw [sSeq_nx (ρ' := [.im (tI items), .im (.int ((s + 1 : Nat) : Int)), .ml [], .no, .no]) (by simp only [pV0, pB0, pB0m, pVs, pBs, k_bind, k_of, k_opS, k_pC, k_p1, k_p2, k_pN, k_fN, k_args0, k_args, k_pOfF, k_sAsg, k_sAsgF, k_sRet, k_sRetF, k_sNx, k_tOf, k_bl, k_tNot, k_iRg, k_iSq, k_lst, k_tup, k_tux, k_pCall, k_fCall, k_valv, k_valf, k_newf, k_add, k_sub, k_lt, k_le, k_gt, k_ge, oEq_int, oNe_int, k_int1, k_abs, k_lens, k_lenl, k_lent, k_lenx, k_set0, k_sets, k_nil])]
    obtain ⟨ρ', h1, a, b, rfl⟩ := sFor_inv (g := gN 3) (it := iRg [(p2 oAdd (p2 oSub (pN oLen [(pB 0)]) (pB 1)) (pC (.int 1)))]) (b := sFor (gN 4) (iSq (pCall (F__law_rooms C fuel) [(pSl (pB 0) (oSo (p2 oAdd (pB 3) (pC (.int 1)))) oNo), (p2 oSub (pB 1) (pC (.int 1)))]))
      (sApp 2 (p2 oCatT (nTup [(p2 oIx (pB 0) (pB 3))]) (pB 4)))) (ρ := [.im (tI items), .im (.int ((s + 1 : Nat) : Int)), .ml [], .no, .no]) (fun k : Nat => D.int k)
      (fun pre ρ => ∃ a b, ρ = [.im (tI items), .im (.int ((s + 1 : Nat) : Int)), .ml ((pre.flatMap fun k => (subs s (items.drop (k + 1))).map fun r => items.getD k 0 :: r).map tI), a, b]) (List.range (items.length - s))
      (by
        simp only [pV0, pB0, pB0m, pVs, pBs, k_bind, k_of, k_opS, k_pC, k_p1, k_p2, k_pN, k_fN, k_args0, k_args, k_pOfF, k_sAsg, k_sAsgF, k_sRet, k_sRetF, k_sNx, k_tOf, k_bl, k_tNot, k_iRg, k_iSq, k_lst, k_tup, k_tux, k_pCall, k_fCall, k_valv, k_valf, k_newf, k_add, k_sub, k_lt, k_le, k_gt, k_ge, oEq_int, oNe_int, k_int1, k_abs, k_lens, k_lenl, k_lent, k_lenx, k_set0, k_sets, k_nil]
        unfold tI
        simp only [pV0, pB0, pB0m, pVs, pBs, k_bind, k_of, k_opS, k_pC, k_p1, k_p2, k_pN, k_fN, k_args0, k_args, k_pOfF, k_sAsg, k_sAsgF, k_sRet, k_sRetF, k_sNx, k_tOf, k_bl, k_tNot, k_iRg, k_iSq, k_lst, k_tup, k_tux, k_pCall, k_fCall, k_valv, k_valf, k_newf, k_add, k_sub, k_lt, k_le, k_gt, k_ge, oEq_int, oNe_int, k_int1, k_abs, k_lens, k_lenl, k_lent, k_lenx, k_set0, k_sets, k_nil]
        rw [List.length_map, show (items.length : Int) - ((s + 1 : Nat) : Int) + 1 = ((items.length - s : Nat) : Int) by omega, oRange1 (by omega)]
        simp only [pV0, pB0, pB0m, pVs, pBs, k_bind, k_of, k_opS, k_pC, k_p1, k_p2, k_pN, k_fN, k_args0, k_args, k_pOfF, k_sAsg, k_sAsgF, k_sRet, k_sRetF, k_sNx, k_tOf, k_bl, k_tNot, k_iRg, k_iSq, k_lst, k_tup, k_tux, k_pCall, k_fCall, k_valv, k_valf, k_newf, k_add, k_sub, k_lt, k_le, k_gt, k_ge, oEq_int, oNe_int, k_int1, k_abs, k_lens, k_lenl, k_lent, k_lenx, k_set0, k_sets, k_nil]
        unfold intR
        rw [List.map_map]; rfl) ⟨_, _, rfl⟩
      (by
        rintro pre k post ρ e ⟨a, b, rfl⟩
        obtain ⟨rfl, hk⟩ := range_split e
        have hk2 : pre.length < items.length := by omega
        have hget : (items.map D.int)[pre.length]? = some (.int (items.getD pre.length 0)) := by
          rw [List.getElem?_map, List.getD_eq_getElem?_getD, List.getElem?_eq_getElem hk2]; rfl
        have hpre : ((pre ++ [pre.length]).flatMap fun k => (subs s (items.drop (k + 1))).map fun r => items.getD k 0 :: r).length ≤ 20736 :=
          Nat.le_trans (flat_pre (fun k => (subs s (items.drop (k + 1))).map fun r => items.getD k 0 :: r) (List.range (items.length - s)) (pre ++ [pre.length]) post (by rw [e, List.append_assoc]; rfl)) (Nat.le_trans hle h12)
        rw [List.flatMap_append, List.length_append] at hpre
        have hpre2 : ((pre.flatMap fun k => (subs s (items.drop (k + 1))).map fun r => items.getD k 0 :: r)).length + (subs s (items.drop (pre.length + 1))).length ≤ 20736 := by
          rw [List.flatMap_singleton, List.length_map] at hpre
          exact hpre
        obtain ⟨ρ2, h5, b2, rfl⟩ := sFor_inv (g := gN 4) (it := iSq (pCall (F__law_rooms C fuel) [(pSl (pB 0) (oSo (p2 oAdd (pB 3) (pC (.int 1)))) oNo), (p2 oSub (pB 1) (pC (.int 1)))])) (b := sApp 2 (p2 oCatT (nTup [(p2 oIx (pB 0) (pB 3))]) (pB 4)))
          (ρ := [.im (tI items), .im (.int ((s + 1 : Nat) : Int)), .ml ((pre.flatMap fun k => (subs s (items.drop (k + 1))).map fun r => items.getD k 0 :: r).map tI), .im (.int pre.length), b]) tI
          (fun q ρ => ∃ b, ρ = [.im (tI items), .im (.int ((s + 1 : Nat) : Int)), .ml (((pre.flatMap fun k => (subs s (items.drop (k + 1))).map fun r => items.getD k 0 :: r) ++ q.map fun r => items.getD pre.length 0 :: r).map tI), .im (.int pre.length), b]) (subs s (items.drop (pre.length + 1)))
          (by
            have hsl := k_pSl (a := pB 0) (b := p2 oAdd (pB 3) (pC (.int 1))) (ρ := [.im (tI items), .im (.int ((s + 1 : Nat) : Int)), .ml ((pre.flatMap fun k => (subs s (items.drop (k + 1))).map fun r => items.getD k 0 :: r).map tI), .im (.int pre.length), b]) (xs := items.map .int) (j := pre.length + 1) (by simp only [pV0, pB0, pB0m, pVs, pBs, k_bind, k_of, k_opS, k_pC, k_p1, k_p2, k_pN, k_fN, k_args0, k_args, k_pOfF, k_sAsg, k_sAsgF, k_sRet, k_sRetF, k_sNx, k_tOf, k_bl, k_tNot, k_iRg, k_iSq, k_lst, k_tup, k_tux, k_pCall, k_fCall, k_valv, k_valf, k_newf, k_add, k_sub, k_lt, k_le, k_gt, k_ge, oEq_int, oNe_int, k_int1, k_abs, k_lens, k_lenl, k_lent, k_lenx, k_set0, k_sets, k_nil]; rfl) (by simp only [pV0, pB0, pB0m, pVs, pBs, k_bind, k_of, k_opS, k_pC, k_p1, k_p2, k_pN, k_fN, k_args0, k_args, k_pOfF, k_sAsg, k_sAsgF, k_sRet, k_sRetF, k_sNx, k_tOf, k_bl, k_tNot, k_iRg, k_iSq, k_lst, k_tup, k_tux, k_pCall, k_fCall, k_valv, k_valf, k_newf, k_add, k_sub, k_lt, k_le, k_gt, k_ge, oEq_int, oNe_int, k_int1, k_abs, k_lens, k_lenl, k_lent, k_lenx, k_set0, k_sets, k_nil]; rfl)
            have ha : pArgs [(pSl (pB 0) (oSo (p2 oAdd (pB 3) (pC (.int 1)))) oNo), (p2 oSub (pB 1) (pC (.int 1)))] [.im (tI items), .im (.int ((s + 1 : Nat) : Int)), .ml ((pre.flatMap fun k => (subs s (items.drop (k + 1))).map fun r => items.getD k 0 :: r).map tI), .im (.int pre.length), b] = .ok [tI (items.drop (pre.length + 1)), .int (s : Int)] := by
              rw [k_args, hsl]
              simp only [pV0, pB0, pB0m, pVs, pBs, k_bind, k_of, k_opS, k_pC, k_p1, k_p2, k_pN, k_fN, k_args0, k_args, k_pOfF, k_sAsg, k_sAsgF, k_sRet, k_sRetF, k_sNx, k_tOf, k_bl, k_tNot, k_iRg, k_iSq, k_lst, k_tup, k_tux, k_pCall, k_fCall, k_valv, k_valf, k_newf, k_add, k_sub, k_lt, k_le, k_gt, k_ge, oEq_int, oNe_int, k_int1, k_abs, k_lens, k_lenl, k_lent, k_lenx, k_set0, k_sets, k_nil]
              rw [show (((s + 1 : Nat) : Int) - 1) = (s : Int) by omega]
              unfold tI
              rw [List.map_drop]
            rw [k_iSq, k_pCall, ha, k_bind, rooms_ok C fuel s (items.drop (pre.length + 1)) (by omega) (by rw [List.length_drop]; omega) (by rw [List.length_drop]; omega) (by omega)]
            simp only [pV0, pB0, pB0m, pVs, pBs, k_bind, k_of, k_opS, k_pC, k_p1, k_p2, k_pN, k_fN, k_args0, k_args, k_pOfF, k_sAsg, k_sAsgF, k_sRet, k_sRetF, k_sNx, k_tOf, k_bl, k_tNot, k_iRg, k_iSq, k_lst, k_tup, k_tux, k_pCall, k_fCall, k_valv, k_valf, k_newf, k_add, k_sub, k_lt, k_le, k_gt, k_ge, oEq_int, oNe_int, k_int1, k_abs, k_lens, k_lenl, k_lent, k_lenx, k_set0, k_sets, k_nil]) ⟨b, by simp⟩
          (by
            rintro q r post2 ρ e2 ⟨b, rfl⟩
            have hq : q.length < (subs s (items.drop (pre.length + 1))).length := by rw [e2, List.length_append, List.length_cons]; omega
            have hr : r.length ≤ 12 := by rw [subs_rlen s _ r (by rw [e2]; exact List.mem_append_right _ List.mem_cons_self)]; omega
            refine ⟨_, [.im (tI items), .im (.int ((s + 1 : Nat) : Int)), .ml (((pre.flatMap fun k => (subs s (items.drop (k + 1))).map fun r => items.getD k 0 :: r) ++ (q ++ [r]).map fun r => items.getD pre.length 0 :: r).map tI), .im (.int pre.length), .im (tI r)], rfl, ?_, _, rfl⟩
            have he : (p2 oCatT (nTup [(p2 oIx (pB 0) (pB 3))]) (pB 4)) [.im (tI items), .im (.int ((s + 1 : Nat) : Int)), .ml (((pre.flatMap fun k => (subs s (items.drop (k + 1))).map fun r => items.getD k 0 :: r) ++ q.map fun r => items.getD pre.length 0 :: r).map tI), .im (.int pre.length), .im (tI r)] = .ok (tI (items.getD pre.length 0 :: r)) := by
              rw [k_p2, k_nTup (ds := [.int (items.getD pre.length 0)]) _ _ ?_ (by show 1 ≤ line; omega)]
              · simp only [pV0, pB0, pB0m, pVs, pBs, k_bind, k_of, k_opS, k_pC, k_p1, k_p2, k_pN, k_fN, k_args0, k_args, k_pOfF, k_sAsg, k_sAsgF, k_sRet, k_sRetF, k_sNx, k_tOf, k_bl, k_tNot, k_iRg, k_iSq, k_lst, k_tup, k_tux, k_pCall, k_fCall, k_valv, k_valf, k_newf, k_add, k_sub, k_lt, k_le, k_gt, k_ge, oEq_int, oNe_int, k_int1, k_abs, k_lens, k_lenl, k_lent, k_lenx, k_set0, k_sets, k_nil]
                unfold tI
                rw [catT (by rw [List.length_map]; show 1 + r.length ≤ line; omega)]
                simp only [pV0, pB0, pB0m, pVs, pBs, k_bind, k_of, k_opS, k_pC, k_p1, k_p2, k_pN, k_fN, k_args0, k_args, k_pOfF, k_sAsg, k_sAsgF, k_sRet, k_sRetF, k_sNx, k_tOf, k_bl, k_tNot, k_iRg, k_iSq, k_lst, k_tup, k_tux, k_pCall, k_fCall, k_valv, k_valf, k_newf, k_add, k_sub, k_lt, k_le, k_gt, k_ge, oEq_int, oNe_int, k_int1, k_abs, k_lens, k_lenl, k_lent, k_lenx, k_set0, k_sets, k_nil]
                rfl
              · simp only [pV0, pB0, pB0m, pVs, pBs, k_bind, k_of, k_opS, k_pC, k_p1, k_p2, k_pN, k_fN, k_args0, k_args, k_pOfF, k_sAsg, k_sAsgF, k_sRet, k_sRetF, k_sNx, k_tOf, k_bl, k_tNot, k_iRg, k_iSq, k_lst, k_tup, k_tux, k_pCall, k_fCall, k_valv, k_valf, k_newf, k_add, k_sub, k_lt, k_le, k_gt, k_ge, oEq_int, oNe_int, k_int1, k_abs, k_lens, k_lenl, k_lent, k_lenx, k_set0, k_sets, k_nil]
                rw [show oIx (tI items) (.int (pre.length : Int)) = some (.int (items.getD pre.length 0)) from ix_t hget]
                simp only [pV0, pB0, pB0m, pVs, pBs, k_bind, k_of, k_opS, k_pC, k_p1, k_p2, k_pN, k_fN, k_args0, k_args, k_pOfF, k_sAsg, k_sAsgF, k_sRet, k_sRetF, k_sNx, k_tOf, k_bl, k_tNot, k_iRg, k_iSq, k_lst, k_tup, k_tux, k_pCall, k_fCall, k_valv, k_valf, k_newf, k_add, k_sub, k_lt, k_le, k_gt, k_ge, oEq_int, oNe_int, k_int1, k_abs, k_lens, k_lenl, k_lent, k_lenx, k_set0, k_sets, k_nil]
            simp only [k_set0, k_sets]
            rw [sApp_eq (xs := ((pre.flatMap fun k => (subs s (items.drop (k + 1))).map fun r => items.getD k 0 :: r) ++ q.map fun r => items.getD pre.length 0 :: r).map tI) rfl he (by rw [List.length_map, List.length_append, List.length_map]; omega)]
            simp only [k_set0, k_sets]
            rw [List.map_append (l₁ := q), ← List.append_assoc, List.map_append (l₂ := [r].map _)]
            rfl)
        refine ⟨_, _, rfl, h5, .im (.int pre.length), b2, ?_⟩
        rw [List.flatMap_append, List.flatMap_singleton])
    rw [sSeq_nx h1]
    rfl
end K40
end
section
namespace K40
open PySem Pu
theorem row_ok (C : Nat) {a b : D} {ns : List Int} (ha : IsS a ns) (hb : IsS b ns) (hn : ns.length ≤ 100000) : F__law_row C [a, b] = .ret (.val (.bl true)) := by
  have hl := l16
  rw [e__law_row]
  unfold g__law_row
  rw [sSeq_nx (ρ' := [.im a, .im b, .no]) (by rw [sIf_f (by simp only [pV0, pB0, pB0m, pVs, pBs, k_bind, k_of, k_opS, k_pC, k_p1, k_p2, k_pN, k_fN, k_args0, k_args, k_pOfF, k_sAsg, k_sAsgF, k_sRet, k_sRetF, k_sNx, k_tOf, k_bl, k_tNot, k_iRg, k_iSq, k_lst, k_tup, k_tux, k_pCall, k_fCall, k_valv, k_valf, k_newf, k_add, k_sub, k_lt, k_le, k_gt, k_ge, oEq_int, oNe_int, k_int1, k_abs, k_lens, k_lenl, k_lent, k_lenx, k_set0, k_sets, k_nil]; rw [ha.len, hb.len]; simp only [pV0, pB0, pB0m, pVs, pBs, k_bind, k_of, k_opS, k_pC, k_p1, k_p2, k_pN, k_fN, k_args0, k_args, k_pOfF, k_sAsg, k_sAsgF, k_sRet, k_sRetF, k_sNx, k_tOf, k_bl, k_tNot, k_iRg, k_iSq, k_lst, k_tup, k_tux, k_pCall, k_fCall, k_valv, k_valf, k_newf, k_add, k_sub, k_lt, k_le, k_gt, k_ge, oEq_int, oNe_int, k_int1, k_abs, k_lens, k_lenl, k_lent, k_lenx, k_set0, k_sets, k_nil]; rfl)]; rfl)]
  obtain ⟨ρ', h1, c, rfl⟩ := sFor_inv (g := gN 2) (it := iRg [(pN oLen [(pB 1)])]) (b := sIf (tOr (tNot (tOf (p1 (oIs .int) (p2 oIx (pB 0) (pB 2))))) (tOr (tOf (p1 (oIs .bool) (p2 oIx (pB 0) (pB 2)))) (tOf (p2 oNe (p2 oIx (pB 0) (pB 2)) (p2 oIx (pB 1) (pB 2))))))
    (sRet (pC (.bl false))) sNx) (ρ := [.im a, .im b, .no]) D.int (fun pre ρ => ∃ c, ρ = [.im a, .im b, c]) (intR ns.length) (by simp only [pV0, pB0, pB0m, pVs, pBs, k_bind, k_of, k_opS, k_pC, k_p1, k_p2, k_pN, k_fN, k_args0, k_args, k_pOfF, k_sAsg, k_sAsgF, k_sRet, k_sRetF, k_sNx, k_tOf, k_bl, k_tNot, k_iRg, k_iSq, k_lst, k_tup, k_tux, k_pCall, k_fCall, k_valv, k_valf, k_newf, k_add, k_sub, k_lt, k_le, k_gt, k_ge, oEq_int, oNe_int, k_int1, k_abs, k_lens, k_lenl, k_lent, k_lenx, k_set0, k_sets, k_nil]; rw [hb.len]; simp only [pV0, pB0, pB0m, pVs, pBs, k_bind, k_of, k_opS, k_pC, k_p1, k_p2, k_pN, k_fN, k_args0, k_args, k_pOfF, k_sAsg, k_sAsgF, k_sRet, k_sRetF, k_sNx, k_tOf, k_bl, k_tNot, k_iRg, k_iSq, k_lst, k_tup, k_tux, k_pCall, k_fCall, k_valv, k_valf, k_newf, k_add, k_sub, k_lt, k_le, k_gt, k_ge, oEq_int, oNe_int, k_int1, k_abs, k_lens, k_lenl, k_lent, k_lenx, k_set0, k_sets, k_nil]; rw [oRange1 (by omega)]; simp only [pV0, pB0, pB0m, pVs, pBs, k_bind, k_of, k_opS, k_pC, k_p1, k_p2, k_pN, k_fN, k_args0, k_args, k_pOfF, k_sAsg, k_sAsgF, k_sRet, k_sRetF, k_sNx, k_tOf, k_bl, k_tNot, k_iRg, k_iSq, k_lst, k_tup, k_tux, k_pCall, k_fCall, k_valv, k_valf, k_newf, k_add, k_sub, k_lt, k_le, k_gt, k_ge, oEq_int, oNe_int, k_int1, k_abs, k_lens, k_lenl, k_lent, k_lenx, k_set0, k_sets, k_nil]) ⟨_, rfl⟩
    (by
      rintro pre x post ρ e ⟨c, rfl⟩
      obtain ⟨rfl, hk⟩ := intR_split e
      refine ⟨[.im a, .im b, .im (.int pre.length)], [.im a, .im b, .im (.int pre.length)], rfl, ?_, _, rfl⟩
      have hx : ns[pre.length]? = some ns[pre.length] := List.getElem?_eq_getElem hk
      have e1 : p2 oIx (pB 0) (pB 2) [.im a, .im b, .im (.int pre.length)] = .ok (.int ns[pre.length]) := p2_ok (by (simp only [pV0, pB0, pB0m, pVs, pBs, k_bind, k_of, k_opS, k_pC, k_p1, k_p2, k_pN, k_fN, k_args0, k_args, k_pOfF, k_sAsg, k_sAsgF, k_sRet, k_sRetF, k_sNx, k_tOf, k_bl, k_tNot, k_iRg, k_iSq, k_lst, k_tup, k_tux, k_pCall, k_fCall, k_valv, k_valf, k_newf, k_add, k_sub, k_lt, k_le, k_gt, k_ge, oEq_int, oNe_int, k_int1, k_abs, k_lens, k_lenl, k_lent, k_lenx, k_set0, k_sets, k_nil]; try rfl)) (by (simp only [pV0, pB0, pB0m, pVs, pBs, k_bind, k_of, k_opS, k_pC, k_p1, k_p2, k_pN, k_fN, k_args0, k_args, k_pOfF, k_sAsg, k_sAsgF, k_sRet, k_sRetF, k_sNx, k_tOf, k_bl, k_tNot, k_iRg, k_iSq, k_lst, k_tup, k_tux, k_pCall, k_fCall, k_valv, k_valf, k_newf, k_add, k_sub, k_lt, k_le, k_gt, k_ge, oEq_int, oNe_int, k_int1, k_abs, k_lens, k_lenl, k_lent, k_lenx, k_set0, k_sets, k_nil]; try rfl)) (ha.ix hx)
      have e2 : p2 oIx (pB 1) (pB 2) [.im a, .im b, .im (.int pre.length)] = .ok (.int ns[pre.length]) := p2_ok (by (simp only [pV0, pB0, pB0m, pVs, pBs, k_bind, k_of, k_opS, k_pC, k_p1, k_p2, k_pN, k_fN, k_args0, k_args, k_pOfF, k_sAsg, k_sAsgF, k_sRet, k_sRetF, k_sNx, k_tOf, k_bl, k_tNot, k_iRg, k_iSq, k_lst, k_tup, k_tux, k_pCall, k_fCall, k_valv, k_valf, k_newf, k_add, k_sub, k_lt, k_le, k_gt, k_ge, oEq_int, oNe_int, k_int1, k_abs, k_lens, k_lenl, k_lent, k_lenx, k_set0, k_sets, k_nil]; try rfl)) (by (simp only [pV0, pB0, pB0m, pVs, pBs, k_bind, k_of, k_opS, k_pC, k_p1, k_p2, k_pN, k_fN, k_args0, k_args, k_pOfF, k_sAsg, k_sAsgF, k_sRet, k_sRetF, k_sNx, k_tOf, k_bl, k_tNot, k_iRg, k_iSq, k_lst, k_tup, k_tux, k_pCall, k_fCall, k_valv, k_valf, k_newf, k_add, k_sub, k_lt, k_le, k_gt, k_ge, oEq_int, oNe_int, k_int1, k_abs, k_lens, k_lenl, k_lent, k_lenx, k_set0, k_sets, k_nil]; try rfl)) (hb.ix hx)
      rw [sIf_f (tOr_f (tNot_t (tOf_ok (p1_ok e1 rfl))) (tOr_f (tOf_ok (p1_ok e1 rfl)) (tOf_ok (p2_ok e1 e2 (by rw [oNe_int, decide_eq_true rfl]; rfl)))))]
      rfl)
  rw [sSeq_nx h1]
  rfl
theorem rows_ok (C : Nat) {rs : List (List Int)} {f g : List Int → D} (hf : ∀ r, f r = tI r ∨ f r = xI r) (hg : ∀ r, IsS (g r) r) (hn : rs.length ≤ 100000) (hr : ∀ r ∈ rs, r.length ≤ 100000) : F__law_rows C [.lst (rs.map f), .lst (rs.map g)] = .ret (.val (.bl true)) := by
  have hl := l16
  have hf' : ∀ r, IsS (f r) r := fun r => .inr (hf r)
  rw [e__law_rows]
  unfold g__law_rows
  rw [sSeq_nx (ρ' := [.im (.lst (rs.map f)), .im (.lst (rs.map g)), .no]) (by
    rw [sIf_f (tOr_f (tNot_t (tOf_ok (p1_ok (x := .lst (rs.map f)) (by (simp only [pV0, pB0, pB0m, pVs, pBs, k_bind, k_of, k_opS, k_pC, k_p1, k_p2, k_pN, k_fN, k_args0, k_args, k_pOfF, k_sAsg, k_sAsgF, k_sRet, k_sRetF, k_sNx, k_tOf, k_bl, k_tNot, k_iRg, k_iSq, k_lst, k_tup, k_tux, k_pCall, k_fCall, k_valv, k_valf, k_newf, k_add, k_sub, k_lt, k_le, k_gt, k_ge, oEq_int, oNe_int, k_int1, k_abs, k_lens, k_lenl, k_lent, k_lenx, k_set0, k_sets, k_nil]; try rfl)) rfl))) (tOf_ok (p2_ok (x := .int rs.length) (y := .int rs.length) (by simp only [pV0, pB0, pB0m, pVs, pBs, k_bind, k_of, k_opS, k_pC, k_p1, k_p2, k_pN, k_fN, k_args0, k_args, k_pOfF, k_sAsg, k_sAsgF, k_sRet, k_sRetF, k_sNx, k_tOf, k_bl, k_tNot, k_iRg, k_iSq, k_lst, k_tup, k_tux, k_pCall, k_fCall, k_valv, k_valf, k_newf, k_add, k_sub, k_lt, k_le, k_gt, k_ge, oEq_int, oNe_int, k_int1, k_abs, k_lens, k_lenl, k_lent, k_lenx, k_set0, k_sets, k_nil]; rw [List.length_map]) (by simp only [pV0, pB0, pB0m, pVs, pBs, k_bind, k_of, k_opS, k_pC, k_p1, k_p2, k_pN, k_fN, k_args0, k_args, k_pOfF, k_sAsg, k_sAsgF, k_sRet, k_sRetF, k_sNx, k_tOf, k_bl, k_tNot, k_iRg, k_iSq, k_lst, k_tup, k_tux, k_pCall, k_fCall, k_valv, k_valf, k_newf, k_add, k_sub, k_lt, k_le, k_gt, k_ge, oEq_int, oNe_int, k_int1, k_abs, k_lens, k_lenl, k_lent, k_lenx, k_set0, k_sets, k_nil]; rw [List.length_map]) (by rw [oNe_int, decide_eq_true rfl]; rfl))))]
    rfl)]
  obtain ⟨ρ', h1, c, rfl⟩ := sFor_inv (g := gN 2) (it := iRg [(pN oLen [(pB 1)])]) (b := sIf (tOr (tNot (tOf (p1 (oIs .tuple) (p2 oIx (pB 0) (pB 2))))) (tNot (tOf (pCall (F__law_row C) [(p2 oIx (pB 0) (pB 2)), (p2 oIx (pB 1) (pB 2))]))))
    (sRet (pC (.bl false))) sNx) (ρ := [.im (.lst (rs.map f)), .im (.lst (rs.map g)), .no]) D.int (fun pre ρ => ∃ c, ρ = [.im (.lst (rs.map f)), .im (.lst (rs.map g)), c]) (intR rs.length) (by simp only [pV0, pB0, pB0m, pVs, pBs, k_bind, k_of, k_opS, k_pC, k_p1, k_p2, k_pN, k_fN, k_args0, k_args, k_pOfF, k_sAsg, k_sAsgF, k_sRet, k_sRetF, k_sNx, k_tOf, k_bl, k_tNot, k_iRg, k_iSq, k_lst, k_tup, k_tux, k_pCall, k_fCall, k_valv, k_valf, k_newf, k_add, k_sub, k_lt, k_le, k_gt, k_ge, oEq_int, oNe_int, k_int1, k_abs, k_lens, k_lenl, k_lent, k_lenx, k_set0, k_sets, k_nil]; rw [List.length_map, oRange1 (by omega)]; simp only [pV0, pB0, pB0m, pVs, pBs, k_bind, k_of, k_opS, k_pC, k_p1, k_p2, k_pN, k_fN, k_args0, k_args, k_pOfF, k_sAsg, k_sAsgF, k_sRet, k_sRetF, k_sNx, k_tOf, k_bl, k_tNot, k_iRg, k_iSq, k_lst, k_tup, k_tux, k_pCall, k_fCall, k_valv, k_valf, k_newf, k_add, k_sub, k_lt, k_le, k_gt, k_ge, oEq_int, oNe_int, k_int1, k_abs, k_lens, k_lenl, k_lent, k_lenx, k_set0, k_sets, k_nil]) ⟨_, rfl⟩
    (by
      rintro pre x post ρ e ⟨c, rfl⟩
      obtain ⟨rfl, hk⟩ := intR_split e
      refine ⟨[.im (.lst (rs.map f)), .im (.lst (rs.map g)), .im (.int pre.length)], [.im (.lst (rs.map f)), .im (.lst (rs.map g)), .im (.int pre.length)], rfl, ?_, _, rfl⟩
      have hx : rs[pre.length]? = some rs[pre.length] := List.getElem?_eq_getElem hk
      have e1 : p2 oIx (pB 0) (pB 2) [.im (.lst (rs.map f)), .im (.lst (rs.map g)), .im (.int pre.length)] = .ok (f rs[pre.length]) := p2_ok (by (simp only [pV0, pB0, pB0m, pVs, pBs, k_bind, k_of, k_opS, k_pC, k_p1, k_p2, k_pN, k_fN, k_args0, k_args, k_pOfF, k_sAsg, k_sAsgF, k_sRet, k_sRetF, k_sNx, k_tOf, k_bl, k_tNot, k_iRg, k_iSq, k_lst, k_tup, k_tux, k_pCall, k_fCall, k_valv, k_valf, k_newf, k_add, k_sub, k_lt, k_le, k_gt, k_ge, oEq_int, oNe_int, k_int1, k_abs, k_lens, k_lenl, k_lent, k_lenx, k_set0, k_sets, k_nil]; try rfl)) (by (simp only [pV0, pB0, pB0m, pVs, pBs, k_bind, k_of, k_opS, k_pC, k_p1, k_p2, k_pN, k_fN, k_args0, k_args, k_pOfF, k_sAsg, k_sAsgF, k_sRet, k_sRetF, k_sNx, k_tOf, k_bl, k_tNot, k_iRg, k_iSq, k_lst, k_tup, k_tux, k_pCall, k_fCall, k_valv, k_valf, k_newf, k_add, k_sub, k_lt, k_le, k_gt, k_ge, oEq_int, oNe_int, k_int1, k_abs, k_lens, k_lenl, k_lent, k_lenx, k_set0, k_sets, k_nil]; try rfl)) (ix_l (by rw [List.getElem?_map, hx]; rfl))
      have e2 : p2 oIx (pB 1) (pB 2) [.im (.lst (rs.map f)), .im (.lst (rs.map g)), .im (.int pre.length)] = .ok (g rs[pre.length]) := p2_ok (by (simp only [pV0, pB0, pB0m, pVs, pBs, k_bind, k_of, k_opS, k_pC, k_p1, k_p2, k_pN, k_fN, k_args0, k_args, k_pOfF, k_sAsg, k_sAsgF, k_sRet, k_sRetF, k_sNx, k_tOf, k_bl, k_tNot, k_iRg, k_iSq, k_lst, k_tup, k_tux, k_pCall, k_fCall, k_valv, k_valf, k_newf, k_add, k_sub, k_lt, k_le, k_gt, k_ge, oEq_int, oNe_int, k_int1, k_abs, k_lens, k_lenl, k_lent, k_lenx, k_set0, k_sets, k_nil]; try rfl)) (by (simp only [pV0, pB0, pB0m, pVs, pBs, k_bind, k_of, k_opS, k_pC, k_p1, k_p2, k_pN, k_fN, k_args0, k_args, k_pOfF, k_sAsg, k_sAsgF, k_sRet, k_sRetF, k_sNx, k_tOf, k_bl, k_tNot, k_iRg, k_iSq, k_lst, k_tup, k_tux, k_pCall, k_fCall, k_valv, k_valf, k_newf, k_add, k_sub, k_lt, k_le, k_gt, k_ge, oEq_int, oNe_int, k_int1, k_abs, k_lens, k_lenl, k_lent, k_lenx, k_set0, k_sets, k_nil]; try rfl)) (ix_l (by rw [List.getElem?_map, hx]; rfl))
      have e3 : oIs .tuple (f rs[pre.length]) = some (.bl true) := by rcases hf rs[pre.length] with q | q <;> rw [q] <;> rfl
      rw [sIf_f (tOr_f (tNot_t (tOf_ok (p1_ok e1 e3))) (tNot_t (tOf_ok (call_ok (args2 e1 e2) (row_ok C (hf' _) (hg _) (hr _ (List.getElem_mem hk)))))))]
      rfl)
  rw [sSeq_nx h1]
  rfl
/-- the orders as they are given -/
structure IsG (g : D) (os : List (List Int)) (f : List Int → D) : Prop where
  hf : f = lI ∨ f = tI
  hg : g = .lst (os.map f) ∨ g = .tup (os.map f)
theorem IsG.len {g : D} {os : List (List Int)} {f : List Int → D} (h : IsG g os f) : oLen [g] = some (.int os.length) := by
  rcases h.hg with rfl | rfl
  · rw [k_lenl, List.length_map]
  · rw [k_lent, List.length_map]
theorem IsG.ix {g : D} {os : List (List Int)} {f : List Int → D} (h : IsG g os f) {k : Nat} {o : List Int} (hx : os[k]? = some o) : oIx g (.int (k : Int)) = some (f o) := by
  have e : (os.map f)[k]? = some (f o) := by rw [List.getElem?_map, hx]; rfl
  rcases h.hg with rfl | rfl
  · exact ix_l e
  · exact ix_t e
theorem IsG.seq {g : D} {os : List (List Int)} {f : List Int → D} (h : IsG g os f) : g.seq? = some (os.map f) := by
  rcases h.hg with rfl | rfl <;> rfl
theorem IsG.s {g : D} {os : List (List Int)} {f : List Int → D} (h : IsG g os f) (o : List Int) : IsS (f o) o := by
  rcases h.hf with rfl | rfl
  · exact .l o
  · exact .t o
theorem IsG.sorted {g : D} {os : List (List Int)} {f : List Int → D} (h : IsG g os f) (o : List Int) : oSorted [f o] = some ((srt ltI o).map .int) := by
  rcases h.hf with rfl | rfl
  · exact sorted_l
  · exact sorted_t
theorem IsG.lst {g : D} {os : List (List Int)} {f : List Int → D} (h : IsG g os f) (o : List Int) : oListOf [f o] = some (o.map .int) := by
  rcases h.hf with rfl | rfl <;> rfl
theorem check_ok (C : Nat) {g : D} {os : List (List Int)} {f : List Int → D} {v d : Nat} (G : Good os v d) (I : IsG g os f) : F_check_orders C [g] = .ret (.val (.tup [.int d, .int v])) := by
  have hl := l16
  have := G.d1
  have := G.d4
  have := G.v1
  have := G.v8
  have gl := G.len
  obtain ⟨o, h0, _, hp⟩ := G.get (k := 0) (by omega)
  have lo : o.length = v := by rw [hp.length_eq, intR_len]
  rw [e_check_orders]
  unfold g_check_orders
  rw [sSeq_nx (ρ' := [.im g, .no, .no, .no]) (by
    rw [sIf_f (tNot_t (tOf_ok (chainLe (i := 1) (j := d) (k := 4) (by (simp only [pV0, pB0, pB0m, pVs, pBs, k_bind, k_of, k_opS, k_pC, k_p1, k_p2, k_pN, k_fN, k_args0, k_args, k_pOfF, k_sAsg, k_sAsgF, k_sRet, k_sRetF, k_sNx, k_tOf, k_bl, k_tNot, k_iRg, k_iSq, k_lst, k_tup, k_tux, k_pCall, k_fCall, k_valv, k_valf, k_newf, k_add, k_sub, k_lt, k_le, k_gt, k_ge, oEq_int, oNe_int, k_int1, k_abs, k_lens, k_lenl, k_lent, k_lenx, k_set0, k_sets, k_nil]; try rfl)) (by simp only [pV0, pB0, pB0m, pVs, pBs, k_bind, k_of, k_opS, k_pC, k_p1, k_p2, k_pN, k_fN, k_args0, k_args, k_pOfF, k_sAsg, k_sAsgF, k_sRet, k_sRetF, k_sNx, k_tOf, k_bl, k_tNot, k_iRg, k_iSq, k_lst, k_tup, k_tux, k_pCall, k_fCall, k_valv, k_valf, k_newf, k_add, k_sub, k_lt, k_le, k_gt, k_ge, oEq_int, oNe_int, k_int1, k_abs, k_lens, k_lenl, k_lent, k_lenx, k_set0, k_sets, k_nil]; rw [I.len, gl]; simp only [pV0, pB0, pB0m, pVs, pBs, k_bind, k_of, k_opS, k_pC, k_p1, k_p2, k_pN, k_fN, k_args0, k_args, k_pOfF, k_sAsg, k_sAsgF, k_sRet, k_sRetF, k_sNx, k_tOf, k_bl, k_tNot, k_iRg, k_iSq, k_lst, k_tup, k_tux, k_pCall, k_fCall, k_valv, k_valf, k_newf, k_add, k_sub, k_lt, k_le, k_gt, k_ge, oEq_int, oNe_int, k_int1, k_abs, k_lens, k_lenl, k_lent, k_lenx, k_set0, k_sets, k_nil]) (by (simp only [pV0, pB0, pB0m, pVs, pBs, k_bind, k_of, k_opS, k_pC, k_p1, k_p2, k_pN, k_fN, k_args0, k_args, k_pOfF, k_sAsg, k_sAsgF, k_sRet, k_sRetF, k_sNx, k_tOf, k_bl, k_tNot, k_iRg, k_iSq, k_lst, k_tup, k_tux, k_pCall, k_fCall, k_valv, k_valf, k_newf, k_add, k_sub, k_lt, k_le, k_gt, k_ge, oEq_int, oNe_int, k_int1, k_abs, k_lens, k_lenl, k_lent, k_lenx, k_set0, k_sets, k_nil]; try rfl)) (by omega) (by omega))))]
    rfl)]
  rw [sSeq_nx (ρ' := [.im g, .im (.int v), .no, .no]) (by
    simp only [pV0, pB0, pB0m, pVs, pBs, k_bind, k_of, k_opS, k_pC, k_p1, k_p2, k_pN, k_fN, k_args0, k_args, k_pOfF, k_sAsg, k_sAsgF, k_sRet, k_sRetF, k_sNx, k_tOf, k_bl, k_tNot, k_iRg, k_iSq, k_lst, k_tup, k_tux, k_pCall, k_fCall, k_valv, k_valf, k_newf, k_add, k_sub, k_lt, k_le, k_gt, k_ge, oEq_int, oNe_int, k_int1, k_abs, k_lens, k_lenl, k_lent, k_lenx, k_set0, k_sets, k_nil]
    rw [show oIx g (.int 0) = some (f o) from I.ix h0]
    simp only [pV0, pB0, pB0m, pVs, pBs, k_bind, k_of, k_opS, k_pC, k_p1, k_p2, k_pN, k_fN, k_args0, k_args, k_pOfF, k_sAsg, k_sAsgF, k_sRet, k_sRetF, k_sNx, k_tOf, k_bl, k_tNot, k_iRg, k_iSq, k_lst, k_tup, k_tux, k_pCall, k_fCall, k_valv, k_valf, k_newf, k_add, k_sub, k_lt, k_le, k_gt, k_ge, oEq_int, oNe_int, k_int1, k_abs, k_lens, k_lenl, k_lent, k_lenx, k_set0, k_sets, k_nil]
    rw [(I.s o).len, lo]
    simp only [pV0, pB0, pB0m, pVs, pBs, k_bind, k_of, k_opS, k_pC, k_p1, k_p2, k_pN, k_fN, k_args0, k_args, k_pOfF, k_sAsg, k_sAsgF, k_sRet, k_sRetF, k_sNx, k_tOf, k_bl, k_tNot, k_iRg, k_iSq, k_lst, k_tup, k_tux, k_pCall, k_fCall, k_valv, k_valf, k_newf, k_add, k_sub, k_lt, k_le, k_gt, k_ge, oEq_int, oNe_int, k_int1, k_abs, k_lens, k_lenl, k_lent, k_lenx, k_set0, k_sets, k_nil])]
  rw [sSeq_nx (ρ' := [.im g, .im (.int v), .no, .no]) (by
    rw [sIf_f (tNot_t (tOf_ok (chainLe (i := 1) (j := v) (k := 8) (by (simp only [pV0, pB0, pB0m, pVs, pBs, k_bind, k_of, k_opS, k_pC, k_p1, k_p2, k_pN, k_fN, k_args0, k_args, k_pOfF, k_sAsg, k_sAsgF, k_sRet, k_sRetF, k_sNx, k_tOf, k_bl, k_tNot, k_iRg, k_iSq, k_lst, k_tup, k_tux, k_pCall, k_fCall, k_valv, k_valf, k_newf, k_add, k_sub, k_lt, k_le, k_gt, k_ge, oEq_int, oNe_int, k_int1, k_abs, k_lens, k_lenl, k_lent, k_lenx, k_set0, k_sets, k_nil]; try rfl)) (by (simp only [pV0, pB0, pB0m, pVs, pBs, k_bind, k_of, k_opS, k_pC, k_p1, k_p2, k_pN, k_fN, k_args0, k_args, k_pOfF, k_sAsg, k_sAsgF, k_sRet, k_sRetF, k_sNx, k_tOf, k_bl, k_tNot, k_iRg, k_iSq, k_lst, k_tup, k_tux, k_pCall, k_fCall, k_valv, k_valf, k_newf, k_add, k_sub, k_lt, k_le, k_gt, k_ge, oEq_int, oNe_int, k_int1, k_abs, k_lens, k_lenl, k_lent, k_lenx, k_set0, k_sets, k_nil]; try rfl)) (by (simp only [pV0, pB0, pB0m, pVs, pBs, k_bind, k_of, k_opS, k_pC, k_p1, k_p2, k_pN, k_fN, k_args0, k_args, k_pOfF, k_sAsg, k_sAsgF, k_sRet, k_sRetF, k_sNx, k_tOf, k_bl, k_tNot, k_iRg, k_iSq, k_lst, k_tup, k_tux, k_pCall, k_fCall, k_valv, k_valf, k_newf, k_add, k_sub, k_lt, k_le, k_gt, k_ge, oEq_int, oNe_int, k_int1, k_abs, k_lens, k_lenl, k_lent, k_lenx, k_set0, k_sets, k_nil]; try rfl)) (by omega) (by omega))))]
    rfl)]
  obtain ⟨ρ', h1, a, b, rfl⟩ := sFor_inv (g := gT [2, 3]) (it := iEn (pV 0)) (b := sIf (tOf (p2 oNe (pOfF (fN oSorted [(pB 3)])) (pOfF (fN oRange [(pV 1)])))) sNo sNx) (ρ := [.im g, .im (.int v), .no, .no]) (fun p : Nat × List Int => .tup [.int (p.1 : Nat), f p.2])
    (fun pre ρ => ∃ a b, ρ = [.im g, .im (.int v), a, b]) (enumL 0 os) (by rw [k_iEn (d := g) (by (simp only [pV0, pB0, pB0m, pVs, pBs, k_bind, k_of, k_opS, k_pC, k_p1, k_p2, k_pN, k_fN, k_args0, k_args, k_pOfF, k_sAsg, k_sAsgF, k_sRet, k_sRetF, k_sNx, k_tOf, k_bl, k_tNot, k_iRg, k_iSq, k_lst, k_tup, k_tux, k_pCall, k_fCall, k_valv, k_valf, k_newf, k_add, k_sub, k_lt, k_le, k_gt, k_ge, oEq_int, oNe_int, k_int1, k_abs, k_lens, k_lenl, k_lent, k_lenx, k_set0, k_sets, k_nil]; try rfl)) I.seq, enum_map]) ⟨_, _, rfl⟩
    (by
      rintro pre ⟨j, o⟩ post ρ e ⟨a, b, rfl⟩
      obtain ⟨e1, e2, e3⟩ := enum_split e
      have hp := G.perm o (List.mem_of_getElem? e2)
      refine ⟨[.im g, .im (.int v), .im (.int j), .im (f o)], [.im g, .im (.int v), .im (.int j), .im (f o)], rfl, ?_, _, _, rfl⟩
      rw [sIf_f (tOf_ok (p2_ok (x := lI (intR v)) (y := lI (intR v)) (pOfF_ok (fN1_ok (x := f o) (by (simp only [pV0, pB0, pB0m, pVs, pBs, k_bind, k_of, k_opS, k_pC, k_p1, k_p2, k_pN, k_fN, k_args0, k_args, k_pOfF, k_sAsg, k_sAsgF, k_sRet, k_sRetF, k_sNx, k_tOf, k_bl, k_tNot, k_iRg, k_iSq, k_lst, k_tup, k_tux, k_pCall, k_fCall, k_valv, k_valf, k_newf, k_add, k_sub, k_lt, k_le, k_gt, k_ge, oEq_int, oNe_int, k_int1, k_abs, k_lens, k_lenl, k_lent, k_lenx, k_set0, k_sets, k_nil]; try rfl)) (by rw [I.sorted, srt_intR hp]))) (pOfF_ok (fN1_ok (x := .int v) (by (simp only [pV0, pB0, pB0m, pVs, pBs, k_bind, k_of, k_opS, k_pC, k_p1, k_p2, k_pN, k_fN, k_args0, k_args, k_pOfF, k_sAsg, k_sAsgF, k_sRet, k_sRetF, k_sNx, k_tOf, k_bl, k_tNot, k_iRg, k_iSq, k_lst, k_tup, k_tux, k_pCall, k_fCall, k_valv, k_valf, k_newf, k_add, k_sub, k_lt, k_le, k_gt, k_ge, oEq_int, oNe_int, k_int1, k_abs, k_lens, k_lenl, k_lent, k_lenx, k_set0, k_sets, k_nil]; try rfl)) (oRange1 (by omega)))) (by rw [lst_ne, decide_eq_true rfl]; rfl)))]
      rfl)
  rw [sSeq_nx h1, k_sRet, k_nTup (ds := [.int d, .int v]) _ _ (args2 (pN1_ok (x := g) (by (simp only [pV0, pB0, pB0m, pVs, pBs, k_bind, k_of, k_opS, k_pC, k_p1, k_p2, k_pN, k_fN, k_args0, k_args, k_pOfF, k_sAsg, k_sAsgF, k_sRet, k_sRetF, k_sNx, k_tOf, k_bl, k_tNot, k_iRg, k_iSq, k_lst, k_tup, k_tux, k_pCall, k_fCall, k_valv, k_valf, k_newf, k_add, k_sub, k_lt, k_le, k_gt, k_ge, oEq_int, oNe_int, k_int1, k_abs, k_lens, k_lenl, k_lent, k_lenx, k_set0, k_sets, k_nil]; try rfl)) (by rw [I.len, gl])) (by (simp only [pV0, pB0, pB0m, pVs, pBs, k_bind, k_of, k_opS, k_pC, k_p1, k_p2, k_pN, k_fN, k_args0, k_args, k_pOfF, k_sAsg, k_sAsgF, k_sRet, k_sRetF, k_sNx, k_tOf, k_bl, k_tNot, k_iRg, k_iSq, k_lst, k_tup, k_tux, k_pCall, k_fCall, k_valv, k_valf, k_newf, k_add, k_sub, k_lt, k_le, k_gt, k_ge, oEq_int, oNe_int, k_int1, k_abs, k_lens, k_lenl, k_lent, k_lenx, k_set0, k_sets, k_nil]; try rfl))) (by show 2 ≤ line; omega)]
  simp only [pV0, pB0, pB0m, pVs, pBs, k_bind, k_of, k_opS, k_pC, k_p1, k_p2, k_pN, k_fN, k_args0, k_args, k_pOfF, k_sAsg, k_sAsgF, k_sRet, k_sRetF, k_sNx, k_tOf, k_bl, k_tNot, k_iRg, k_iSq, k_lst, k_tup, k_tux, k_pCall, k_fCall, k_valv, k_valf, k_newf, k_add, k_sub, k_lt, k_le, k_gt, k_ge, oEq_int, oNe_int, k_int1, k_abs, k_lens, k_lenl, k_lent, k_lenx, k_set0, k_sets, k_nil]
  rfl
theorem fullo_ok (C : Nat) {g : D} {os : List (List Int)} {f : List Int → D} {v d : Nat} (G : Good os v d) (I : IsG g os f) : F_full_orders C [g] = .ret (.fresh ((List.range d).map fun k => xI (fullRow os v k))) := by
  have hl := l16
  have := G.d4
  have := G.v8
  have gl := G.len
  rw [e_full_orders]
  unfold g_full_orders
  rw [sSeq_nx (k_asgT (call_ok (args1 (by (simp only [pV0, pB0, pB0m, pVs, pBs, k_bind, k_of, k_opS, k_pC, k_p1, k_p2, k_pN, k_fN, k_args0, k_args, k_pOfF, k_sAsg, k_sAsgF, k_sRet, k_sRetF, k_sNx, k_tOf, k_bl, k_tNot, k_iRg, k_iSq, k_lst, k_tup, k_tux, k_pCall, k_fCall, k_valv, k_valf, k_newf, k_add, k_sub, k_lt, k_le, k_gt, k_ge, oEq_int, oNe_int, k_int1, k_abs, k_lens, k_lenl, k_lent, k_lenx, k_set0, k_sets, k_nil]; try rfl))) (check_ok C G I)))]
  simp only [k_set0, k_sets]
  rw [sSeq_nx (ρ' := [.im g, .im (.int d), .im (.int v), .ml [], .no, .no, .no, .no]) (by (simp only [pV0, pB0, pB0m, pVs, pBs, k_bind, k_of, k_opS, k_pC, k_p1, k_p2, k_pN, k_fN, k_args0, k_args, k_pOfF, k_sAsg, k_sAsgF, k_sRet, k_sRetF, k_sNx, k_tOf, k_bl, k_tNot, k_iRg, k_iSq, k_lst, k_tup, k_tux, k_pCall, k_fCall, k_valv, k_valf, k_newf, k_add, k_sub, k_lt, k_le, k_gt, k_ge, oEq_int, oNe_int, k_int1, k_abs, k_lens, k_lenl, k_lent, k_lenx, k_set0, k_sets, k_nil]; try rfl))]
  obtain ⟨ρ', h1, a, b, c, z, rfl⟩ := sFor_inv (g := gT [4, 5]) (it := iEn (pV 0)) (b := (sSeq (sAsg (gN 6) (pOfF (fComp [7] (gN 7) (iRg [(pV 1)]) (tOf (p2 oNe (pB 7) (pB 4))) (p2 oAdd (pB 2) (pB 7)))))
    (sApp 3 (pN oTupleX [(pOfF (fCat (pOfF (fCat (pOfF (nLst [(p2 oAdd (pB 2) (pB 4))])) (pOfF (fN oListOf [(pB 5)])))) (pB 6)))])))) (ρ := [.im g, .im (.int d), .im (.int v), .ml [], .no, .no, .no, .no]) (fun p : Nat × List Int => .tup [.int (p.1 : Nat), f p.2])
    (fun pre ρ => ∃ a b c z, ρ = [.im g, .im (.int d), .im (.int v), .ml ((List.range pre.length).map fun k => xI (fullRow os v k)), a, b, c, z]) (enumL 0 os) (by rw [k_iEn (d := g) (by (simp only [pV0, pB0, pB0m, pVs, pBs, k_bind, k_of, k_opS, k_pC, k_p1, k_p2, k_pN, k_fN, k_args0, k_args, k_pOfF, k_sAsg, k_sAsgF, k_sRet, k_sRetF, k_sNx, k_tOf, k_bl, k_tNot, k_iRg, k_iSq, k_lst, k_tup, k_tux, k_pCall, k_fCall, k_valv, k_valf, k_newf, k_add, k_sub, k_lt, k_le, k_gt, k_ge, oEq_int, oNe_int, k_int1, k_abs, k_lens, k_lenl, k_lent, k_lenx, k_set0, k_sets, k_nil]; try rfl)) I.seq, enum_map]) ⟨_, _, _, _, rfl⟩
    (by
      rintro pre ⟨j, o⟩ post ρ e ⟨a, b, c, z, rfl⟩
      obtain ⟨e1, e2, e3⟩ := enum_split e
      obtain rfl : j = pre.length := e1
      rw [gl] at e3
      obtain ⟨o', q1, q2, q3⟩ := G.get e3
      rw [e2] at q1
      cases q1
      have lo : o.length = v := by rw [q3.length_eq, intR_len]
      have lt := others_len v os.length pre.length
      refine ⟨[.im g, .im (.int d), .im (.int v), .ml ((List.range pre.length).map fun k => xI (fullRow os v k)), .im (.int pre.length), .im (f o), c, z], [.im g, .im (.int d), .im (.int v), .ml ((List.range (pre.length + 1)).map fun k => xI (fullRow os v k)), .im (.int pre.length), .im (f o), .im (lI (others v os.length pre.length)), z], rfl, ?_, _, _, _, _, by rw [List.length_append]; rfl⟩
      have hc := fComp_ok (own := [7]) (g := gN 7) (it := iRg [(pV 1)]) (t := tOf (p2 oNe (pB 7) (pB 4))) (e := p2 oAdd (pB 2) (pB 7)) (ρ := [.im g, .im (.int d), .im (.int v), .ml ((List.range pre.length).map fun k => xI (fullRow os v k)), .im (.int pre.length), .im (f o), c, z]) D.int (fun j => !decide (j = (pre.length : Int))) (fun j => .int ((v : Int) + j)) (intR os.length)
        (by simp only [pV0, pB0, pB0m, pVs, pBs, k_bind, k_of, k_opS, k_pC, k_p1, k_p2, k_pN, k_fN, k_args0, k_args, k_pOfF, k_sAsg, k_sAsgF, k_sRet, k_sRetF, k_sNx, k_tOf, k_bl, k_tNot, k_iRg, k_iSq, k_lst, k_tup, k_tux, k_pCall, k_fCall, k_valv, k_valf, k_newf, k_add, k_sub, k_lt, k_le, k_gt, k_ge, oEq_int, oNe_int, k_int1, k_abs, k_lens, k_lenl, k_lent, k_lenx, k_set0, k_sets, k_nil]; rw [gl, oRange1 (by omega)]; simp only [pV0, pB0, pB0m, pVs, pBs, k_bind, k_of, k_opS, k_pC, k_p1, k_p2, k_pN, k_fN, k_args0, k_args, k_pOfF, k_sAsg, k_sAsgF, k_sRet, k_sRetF, k_sNx, k_tOf, k_bl, k_tNot, k_iRg, k_iSq, k_lst, k_tup, k_tux, k_pCall, k_fCall, k_valv, k_valf, k_newf, k_add, k_sub, k_lt, k_le, k_gt, k_ge, oEq_int, oNe_int, k_int1, k_abs, k_lens, k_lenl, k_lent, k_lenx, k_set0, k_sets, k_nil]) (fun x hx => ⟨[.im g, .im (.int d), .im (.int v), .ml ((List.range pre.length).map fun k => xI (fullRow os v k)), .im (.int pre.length), .im (f o), c, .im (.int x)], by rw [wipe1]; rfl, by simp only [pV0, pB0, pB0m, pVs, pBs, k_bind, k_of, k_opS, k_pC, k_p1, k_p2, k_pN, k_fN, k_args0, k_args, k_pOfF, k_sAsg, k_sAsgF, k_sRet, k_sRetF, k_sNx, k_tOf, k_bl, k_tNot, k_iRg, k_iSq, k_lst, k_tup, k_tux, k_pCall, k_fCall, k_valv, k_valf, k_newf, k_add, k_sub, k_lt, k_le, k_gt, k_ge, oEq_int, oNe_int, k_int1, k_abs, k_lens, k_lenl, k_lent, k_lenx, k_set0, k_sets, k_nil], fun _ => by simp only [pV0, pB0, pB0m, pVs, pBs, k_bind, k_of, k_opS, k_pC, k_p1, k_p2, k_pN, k_fN, k_args0, k_args, k_pOfF, k_sAsg, k_sAsgF, k_sRet, k_sRetF, k_sNx, k_tOf, k_bl, k_tNot, k_iRg, k_iSq, k_lst, k_tup, k_tux, k_pCall, k_fCall, k_valv, k_valf, k_newf, k_add, k_sub, k_lt, k_le, k_gt, k_ge, oEq_int, oNe_int, k_int1, k_abs, k_lens, k_lenl, k_lent, k_lenx, k_set0, k_sets, k_nil]⟩)
      have ee : ((intR os.length).filter fun j => !decide (j = (pre.length : Int))).map (fun j => D.int ((v : Int) + j)) = (others v os.length pre.length).map .int := by unfold others; rw [List.map_map]; rfl
      rw [ee] at hc
      rw [sSeq_nx (ρ' := [.im g, .im (.int d), .im (.int v), .ml ((List.range pre.length).map fun k => xI (fullRow os v k)), .im (.int pre.length), .im (f o), .im (lI (others v os.length pre.length)), z]) (by rw [k_sAsg, pOfF_ok hc]; rfl)]
      have r1 := k_fCat (a := pOfF (nLst [(p2 oAdd (pB 2) (pB 4))])) (b := pOfF (fN oListOf [(pB 5)])) (ρ := [.im g, .im (.int d), .im (.int v), .ml ((List.range pre.length).map fun k => xI (fullRow os v k)), .im (.int pre.length), .im (f o), .im (lI (others v os.length pre.length)), z]) (xs := [.int ((v : Int) + pre.length)]) (ys := o.map .int)
        (pOfF_ok (k_nLst _ _ (args1 (by (simp only [pV0, pB0, pB0m, pVs, pBs, k_bind, k_of, k_opS, k_pC, k_p1, k_p2, k_pN, k_fN, k_args0, k_args, k_pOfF, k_sAsg, k_sAsgF, k_sRet, k_sRetF, k_sNx, k_tOf, k_bl, k_tNot, k_iRg, k_iSq, k_lst, k_tup, k_tux, k_pCall, k_fCall, k_valv, k_valf, k_newf, k_add, k_sub, k_lt, k_le, k_gt, k_ge, oEq_int, oNe_int, k_int1, k_abs, k_lens, k_lenl, k_lent, k_lenx, k_set0, k_sets, k_nil]; try rfl))) (by show 1 ≤ line; omega))) (pOfF_ok (fN1_ok (by (simp only [pV0, pB0, pB0m, pVs, pBs, k_bind, k_of, k_opS, k_pC, k_p1, k_p2, k_pN, k_fN, k_args0, k_args, k_pOfF, k_sAsg, k_sAsgF, k_sRet, k_sRetF, k_sNx, k_tOf, k_bl, k_tNot, k_iRg, k_iSq, k_lst, k_tup, k_tux, k_pCall, k_fCall, k_valv, k_valf, k_newf, k_add, k_sub, k_lt, k_le, k_gt, k_ge, oEq_int, oNe_int, k_int1, k_abs, k_lens, k_lenl, k_lent, k_lenx, k_set0, k_sets, k_nil]; try rfl)) (I.lst o))) (by rw [List.length_map, lo]; show 1 + v ≤ line; omega)
      have r2 := k_fCat (b := pB 6) (ys := (others v os.length pre.length).map .int) (pOfF_ok r1) (by simp only [pV0, pB0, pB0m, pVs, pBs, k_bind, k_of, k_opS, k_pC, k_p1, k_p2, k_pN, k_fN, k_args0, k_args, k_pOfF, k_sAsg, k_sAsgF, k_sRet, k_sRetF, k_sNx, k_tOf, k_bl, k_tNot, k_iRg, k_iSq, k_lst, k_tup, k_tux, k_pCall, k_fCall, k_valv, k_valf, k_newf, k_add, k_sub, k_lt, k_le, k_gt, k_ge, oEq_int, oNe_int, k_int1, k_abs, k_lens, k_lenl, k_lent, k_lenx, k_set0, k_sets, k_nil]; rfl) (by rw [List.length_append, List.length_map, List.length_map, lo]; show 1 + v + _ ≤ line; omega)
      rw [sApp_eq (xs := (List.range pre.length).map fun k => xI (fullRow os v k)) (d := xI (fullRow os v pre.length)) rfl (pN1_ok (pOfF_ok r2) ?_) (by rw [List.length_map, List.length_range]; omega)]
      · simp only [k_set0, k_sets]
        rw [List.range_succ, List.map_append]
        rfl
      · show some (D.tux _) = some (xI _)
        unfold fullRow xI
        rw [q2, List.map_append, List.map_append]
        rfl)
  rw [sSeq_nx h1, enumL_len, gl]
  rfl
end K40
end
section
namespace K40
open PySem Pu
/-- the first of a row in the room -/
def fst (row room : List Int) : Int := (row.filter fun x => decide (x ∈ room)).headD 0
def low (row room : List Int) : Nat := row.idxOf (fst row room)
structure Rows (rows : List (List Int)) (n : Nat) : Prop where
  perm : ∀ r ∈ rows, r.Perm (intR n)
  ne : rows ≠ []
  few : rows.length ≤ 4
  n1 : 1 ≤ n
  n12 : n ≤ 12
structure Room (room : List Int) (n : Nat) : Prop where
  ne : room ≠ []
  mem : ∀ x ∈ room, x ∈ intR n
  len : room.length ≤ 12
theorem filt_ne {row room : List Int} {n : Nat} (h : row.Perm (intR n)) (R : Room room n) : (row.filter fun x => decide (x ∈ room)) ≠ [] := by
  obtain ⟨x, hx⟩ := List.exists_mem_of_ne_nil _ R.ne
  intro e
  have : x ∈ row.filter fun x => decide (x ∈ room) := List.mem_filter.mpr ⟨h.mem_iff.mpr (R.mem x hx), decide_eq_true hx⟩
  rw [e] at this
  cases this
theorem fst_mem {row room : List Int} {n : Nat} (h : row.Perm (intR n)) (R : Room room n) : fst row room ∈ row ∧ fst row room ∈ room := by
  unfold fst
  cases e : row.filter fun x => decide (x ∈ room) with
  | nil => exact absurd e (filt_ne h R)
  | cons x r =>
    have : x ∈ row.filter fun x => decide (x ∈ room) := by rw [e]; exact List.mem_cons_self
    obtain ⟨a, b⟩ := List.mem_filter.mp this
    exact ⟨a, of_decide_eq_true b⟩
theorem idx_ne {x y : Int} {r : List Int} (h : x ≠ y) : (x :: r).idxOf y = r.idxOf y + 1 := by
  rw [List.idxOf_cons, show (x == y) = false from beq_eq_false_iff_ne.mpr h]; rfl
theorem head_least {p : Int → Bool} : ∀ {row : List Int} {y : Int}, y ∈ row → p y = true → row.idxOf ((row.filter p).headD 0) ≤ row.idxOf y
  | [], y, h, _ => by cases h
  | x :: r, y, h, hy => by
    by_cases c : p x = true
    · rw [List.filter_cons_of_pos c]
      show (x :: r).idxOf x ≤ _
      rw [List.idxOf_cons_self]
      exact Nat.zero_le _
    · rw [List.filter_cons_of_neg c]
      have hyx : y ≠ x := fun e => c (e ▸ hy)
      have hyr : y ∈ r := (List.mem_cons.mp h).resolve_left hyx
      have ih := head_least hyr hy
      rw [idx_ne (Ne.symm hyx)]
      by_cases e : (r.filter p).headD 0 = x
      · rw [e, List.idxOf_cons_self]; exact Nat.zero_le _
      · rw [idx_ne (Ne.symm e)]
        exact Nat.succ_le_succ ih
theorem low_le {row room : List Int} {y : Int} (h : y ∈ row) (hr : y ∈ room) : low row room ≤ row.idxOf y := head_least h (decide_eq_true hr)
theorem mem_drop {u : Int} : ∀ {row : List Int} {m : Nat}, row.Nodup → (u ∈ row.drop m ↔ u ∈ row ∧ m ≤ row.idxOf u)
  | row, 0, _ => by simp
  | [], m + 1, _ => by simp
  | x :: r, m + 1, h => by
    obtain ⟨h1, h2⟩ := List.nodup_cons.mp h
    rw [List.drop_succ_cons, mem_drop h2]
    by_cases e : u = x
    · subst e
      rw [List.idxOf_cons_self]
      exact ⟨fun q => absurd q.1 h1, fun q => by omega⟩
    · rw [idx_ne (Ne.symm e), List.mem_cons]
      constructor
      · rintro ⟨a, b⟩; exact ⟨.inr a, Nat.succ_le_succ b⟩
      · rintro ⟨a, b⟩; exact ⟨a.resolve_left e, Nat.le_of_succ_le_succ b⟩
theorem srt_drop {row : List Int} {n m : Nat} (h : row.Perm (intR n)) : srt ltI (row.drop m) = (intR n).filter fun u => decide (m ≤ row.idxOf u) := by
  have nd : row.Nodup := h.nodup_iff.mpr (intR_nodup n)
  refine (srt_uniq ltI_tot ?_ ?_).symm
  · exact ((intR_lt n).filter _).imp fun {a b} q => decide_eq_false (by omega)
  · refine (List.perm_ext_iff_of_nodup ((intR_nodup n).filter _) (nd.sublist (List.drop_sublist _ _))).mpr fun u => ?_
    rw [List.mem_filter, mem_drop nd, h.mem_iff, decide_eq_true_eq]
theorem first_ok (C : Nat) {row room : List Int} {n : Nat} (h : row.Perm (intR n)) (R : Room room n) : F_first_of C [xI row, tI room] = .ret (.val (.int (fst row room))) := by
  rw [e_first_of]
  unfold g_first_of
  have hc := fComp_ok (own := [2]) (g := gN 2) (it := iSq (pV 0)) (t := tOf (p2 oIn (pB 2) (pB 1))) (e := pV 2) (ρ := [.im (xI row), .im (tI room), .no]) D.int (fun x => decide (x ∈ room)) D.int row (by unfold xI; simp only [pV0, pB0, pB0m, pVs, pBs, k_bind, k_of, k_opS, k_pC, k_p1, k_p2, k_pN, k_fN, k_args0, k_args, k_pOfF, k_sAsg, k_sAsgF, k_sRet, k_sRetF, k_sNx, k_tOf, k_bl, k_tNot, k_iRg, k_iSq, k_lst, k_tup, k_tux, k_pCall, k_fCall, k_valv, k_valf, k_newf, k_add, k_sub, k_lt, k_le, k_gt, k_ge, oEq_int, oNe_int, k_int1, k_abs, k_lens, k_lenl, k_lent, k_lenx, k_set0, k_sets, k_nil])
    (fun x hx => ⟨[.im (xI row), .im (tI room), .im (.int x)], by rw [wipe1]; rfl, tOf_ok (p2_ok (x := .int x) (y := tI room) (by (simp only [pV0, pB0, pB0m, pVs, pBs, k_bind, k_of, k_opS, k_pC, k_p1, k_p2, k_pN, k_fN, k_args0, k_args, k_pOfF, k_sAsg, k_sAsgF, k_sRet, k_sRetF, k_sNx, k_tOf, k_bl, k_tNot, k_iRg, k_iSq, k_lst, k_tup, k_tux, k_pCall, k_fCall, k_valv, k_valf, k_newf, k_add, k_sub, k_lt, k_le, k_gt, k_ge, oEq_int, oNe_int, k_int1, k_abs, k_lens, k_lenl, k_lent, k_lenx, k_set0, k_sets, k_nil]; try rfl)) (by (simp only [pV0, pB0, pB0m, pVs, pBs, k_bind, k_of, k_opS, k_pC, k_p1, k_p2, k_pN, k_fN, k_args0, k_args, k_pOfF, k_sAsg, k_sAsgF, k_sRet, k_sRetF, k_sNx, k_tOf, k_bl, k_tNot, k_iRg, k_iSq, k_lst, k_tup, k_tux, k_pCall, k_fCall, k_valv, k_valf, k_newf, k_add, k_sub, k_lt, k_le, k_gt, k_ge, oEq_int, oNe_int, k_int1, k_abs, k_lens, k_lenl, k_lent, k_lenx, k_set0, k_sets, k_nil]; try rfl)) (in_t x room)), fun _ => by (simp only [pV0, pB0, pB0m, pVs, pBs, k_bind, k_of, k_opS, k_pC, k_p1, k_p2, k_pN, k_fN, k_args0, k_args, k_pOfF, k_sAsg, k_sAsgF, k_sRet, k_sRetF, k_sNx, k_tOf, k_bl, k_tNot, k_iRg, k_iSq, k_lst, k_tup, k_tux, k_pCall, k_fCall, k_valv, k_valf, k_newf, k_add, k_sub, k_lt, k_le, k_gt, k_ge, oEq_int, oNe_int, k_int1, k_abs, k_lens, k_lenl, k_lent, k_lenx, k_set0, k_sets, k_nil]; try rfl)⟩)
  rw [k_sRet, p2_ok (x := .lst ((row.filter fun x => decide (x ∈ room)).map .int)) (y := .int ((0 : Nat) : Int)) (z := .int (fst row room)) (pOfF_ok hc) rfl]
  · simp only [pV0, pB0, pB0m, pVs, pBs, k_bind, k_of, k_opS, k_pC, k_p1, k_p2, k_pN, k_fN, k_args0, k_args, k_pOfF, k_sAsg, k_sAsgF, k_sRet, k_sRetF, k_sNx, k_tOf, k_bl, k_tNot, k_iRg, k_iSq, k_lst, k_tup, k_tux, k_pCall, k_fCall, k_valv, k_valf, k_newf, k_add, k_sub, k_lt, k_le, k_gt, k_ge, oEq_int, oNe_int, k_int1, k_abs, k_lens, k_lenl, k_lent, k_lenx, k_set0, k_sets, k_nil]; rfl
  · refine ix_l ?_
    unfold fst
    cases e : row.filter fun x => decide (x ∈ room) with
    | nil => exact absurd e (filt_ne h R)
    | cons x r => rfl
theorem above_ok (C : Nat) {row room : List Int} {n : Nat} (h : row.Perm (intR n)) (R : Room room n) : F_places_above C [xI row, tI room] = .ret (.val (tI (row.drop (low row room + 1)))) := by
  rw [e_places_above]
  unfold g_places_above
  have hm := fst_mem h R
  have hi : pMt isTux oIdx (pB 0) (pCall (F_first_of C) [(pV 0), (pV 1)]) [.im (xI row), .im (tI room)] = .ok (.int (low row room)) :=
    k_pMt (d := xI row) (y := .int (fst row room)) (by (simp only [pV0, pB0, pB0m, pVs, pBs, k_bind, k_of, k_opS, k_pC, k_p1, k_p2, k_pN, k_fN, k_args0, k_args, k_pOfF, k_sAsg, k_sAsgF, k_sRet, k_sRetF, k_sNx, k_tOf, k_bl, k_tNot, k_iRg, k_iSq, k_lst, k_tup, k_tux, k_pCall, k_fCall, k_valv, k_valf, k_newf, k_add, k_sub, k_lt, k_le, k_gt, k_ge, oEq_int, oNe_int, k_int1, k_abs, k_lens, k_lenl, k_lent, k_lenx, k_set0, k_sets, k_nil]; try rfl)) rfl (call_ok (args2 (by (simp only [pV0, pB0, pB0m, pVs, pBs, k_bind, k_of, k_opS, k_pC, k_p1, k_p2, k_pN, k_fN, k_args0, k_args, k_pOfF, k_sAsg, k_sAsgF, k_sRet, k_sRetF, k_sNx, k_tOf, k_bl, k_tNot, k_iRg, k_iSq, k_lst, k_tup, k_tux, k_pCall, k_fCall, k_valv, k_valf, k_newf, k_add, k_sub, k_lt, k_le, k_gt, k_ge, oEq_int, oNe_int, k_int1, k_abs, k_lens, k_lenl, k_lent, k_lenx, k_set0, k_sets, k_nil]; try rfl)) (by (simp only [pV0, pB0, pB0m, pVs, pBs, k_bind, k_of, k_opS, k_pC, k_p1, k_p2, k_pN, k_fN, k_args0, k_args, k_pOfF, k_sAsg, k_sAsgF, k_sRet, k_sRetF, k_sNx, k_tOf, k_bl, k_tNot, k_iRg, k_iSq, k_lst, k_tup, k_tux, k_pCall, k_fCall, k_valv, k_valf, k_newf, k_add, k_sub, k_lt, k_le, k_gt, k_ge, oEq_int, oNe_int, k_int1, k_abs, k_lens, k_lenl, k_lent, k_lenx, k_set0, k_sets, k_nil]; try rfl))) (first_ok C h R)) (idx_x hm.1)
  rw [k_sRet, k_pSlx (xs := row.map .int) (j := low row room + 1) (by (simp only [pV0, pB0, pB0m, pVs, pBs, k_bind, k_of, k_opS, k_pC, k_p1, k_p2, k_pN, k_fN, k_args0, k_args, k_pOfF, k_sAsg, k_sAsgF, k_sRet, k_sRetF, k_sNx, k_tOf, k_bl, k_tNot, k_iRg, k_iSq, k_lst, k_tup, k_tux, k_pCall, k_fCall, k_valv, k_valf, k_newf, k_add, k_sub, k_lt, k_le, k_gt, k_ge, oEq_int, oNe_int, k_int1, k_abs, k_lens, k_lenl, k_lent, k_lenx, k_set0, k_sets, k_nil]; try rfl)) (by rw [k_p2, hi]; simp only [pV0, pB0, pB0m, pVs, pBs, k_bind, k_of, k_opS, k_pC, k_p1, k_p2, k_pN, k_fN, k_args0, k_args, k_pOfF, k_sAsg, k_sAsgF, k_sRet, k_sRetF, k_sNx, k_tOf, k_bl, k_tNot, k_iRg, k_iSq, k_lst, k_tup, k_tux, k_pCall, k_fCall, k_valv, k_valf, k_newf, k_add, k_sub, k_lt, k_le, k_gt, k_ge, oEq_int, oNe_int, k_int1, k_abs, k_lens, k_lenl, k_lent, k_lenx, k_set0, k_sets, k_nil]; rfl) (Nat.succ_pos _) (by intro e; have := List.map_eq_nil_iff.mp e; rw [this] at hm; cases hm.1)]
  simp only [pV0, pB0, pB0m, pVs, pBs, k_bind, k_of, k_opS, k_pC, k_p1, k_p2, k_pN, k_fN, k_args0, k_args, k_pOfF, k_sAsg, k_sAsgF, k_sRet, k_sRetF, k_sNx, k_tOf, k_bl, k_tNot, k_iRg, k_iSq, k_lst, k_tup, k_tux, k_pCall, k_fCall, k_valv, k_valf, k_newf, k_add, k_sub, k_lt, k_le, k_gt, k_ge, oEq_int, oNe_int, k_int1, k_abs, k_lens, k_lenl, k_lent, k_lenx, k_set0, k_sets, k_nil]
  unfold tI
  rw [List.map_drop]
  rfl
/-- those whose places in all rows are above the room's -/
def ab (rows : List (List Int)) (room : List Int) (u : Int) : Bool := rows.all fun row => decide (low row room < row.idxOf u)
def beat (rows : List (List Int)) (n : Nat) (room : List Int) : List Int := (intR n).filter (ab rows room)
theorem all_ok (C : Nat) {rows : List (List Int)} {room : List Int} {n : Nat} (S : Rows rows n) (R : Room room n) : F_above_in_all C [.lst (rows.map xI), tI room] = .ret (.val (lI (beat rows n room))) := by
  cases rows with
  | nil => exact absurd rfl S.ne
  | cons r0 rs =>
    have p0 := S.perm r0 List.mem_cons_self
    have h0 : (pCall (F_places_above C) [(p2 oIx (pB 0) (pC (.int 0))), (pV 1)]) [.im (.lst ((r0 :: rs).map xI)), .im (tI room), .no, .no, .no, .no] = .ok (tI (r0.drop (low r0 room + 1))) :=
      call_ok (args2 (p2_ok (y := .int ((0 : Nat) : Int)) (by (simp only [pV0, pB0, pB0m, pVs, pBs, k_bind, k_of, k_opS, k_pC, k_p1, k_p2, k_pN, k_fN, k_args0, k_args, k_pOfF, k_sAsg, k_sAsgF, k_sRet, k_sRetF, k_sNx, k_tOf, k_bl, k_tNot, k_iRg, k_iSq, k_lst, k_tup, k_tux, k_pCall, k_fCall, k_valv, k_valf, k_newf, k_add, k_sub, k_lt, k_le, k_gt, k_ge, oEq_int, oNe_int, k_int1, k_abs, k_lens, k_lenl, k_lent, k_lenx, k_set0, k_sets, k_nil]; try rfl)) rfl (ix_l rfl)) (by (simp only [pV0, pB0, pB0m, pVs, pBs, k_bind, k_of, k_opS, k_pC, k_p1, k_p2, k_pN, k_fN, k_args0, k_args, k_pOfF, k_sAsg, k_sAsgF, k_sRet, k_sRetF, k_sNx, k_tOf, k_bl, k_tNot, k_iRg, k_iSq, k_lst, k_tup, k_tux, k_pCall, k_fCall, k_valv, k_valf, k_newf, k_add, k_sub, k_lt, k_le, k_gt, k_ge, oEq_int, oNe_int, k_int1, k_abs, k_lens, k_lenl, k_lent, k_lenx, k_set0, k_sets, k_nil]; try rfl))) (above_ok C p0 R)
    rw [e_above_in_all]
    unfold g_above_in_all
    have e0 : srt ltI (r0.drop (low r0 room + 1)) = (intR n).filter (ab [r0] room) := by
      rw [srt_drop p0]
      refine List.filter_congr fun u _ => ?_
      unfold ab
      rw [List.all_cons, List.all_nil, Bool.and_true]
      rfl
    rw [sSeq_nx (ρ' := [.im (.lst ((r0 :: rs).map xI)), .im (tI room), .im (lI ((intR n).filter (ab [r0] room))), .no, .no, .no]) (by
      rw [k_sAsg, pOfF_ok (fN1_ok h0 sorted_t), e0]; rfl)]
    obtain ⟨ρ', h1, a, b, c, rfl⟩ := sFor_inv (g := gN 3) (it := iSq (pOfF (fSl (pB 0) (oSo (pC (.int 1))) oNo))) (b := (sSeq (sAsg (gN 4) (pCall (F_places_above C) [(pV 3), (pV 1)]))
      (sAsg (gN 2) (pOfF (fComp [5] (gN 5) (iSq (pV 2)) (tOf (p2 oIn (pB 5) (pB 4))) (pV 5)))))) (ρ := [.im (.lst ((r0 :: rs).map xI)), .im (tI room), .im (lI ((intR n).filter (ab [r0] room))), .no, .no, .no]) xI
      (fun pre ρ => ∃ a b c, ρ = [.im (.lst ((r0 :: rs).map xI)), .im (tI room), .im (lI ((intR n).filter (ab (r0 :: pre) room))), a, b, c]) rs
      (by rw [k_iSq, pOfF_ok (k_fSl (xs := (r0 :: rs).map xI) (j := 1) (by (simp only [pV0, pB0, pB0m, pVs, pBs, k_bind, k_of, k_opS, k_pC, k_p1, k_p2, k_pN, k_fN, k_args0, k_args, k_pOfF, k_sAsg, k_sAsgF, k_sRet, k_sRetF, k_sNx, k_tOf, k_bl, k_tNot, k_iRg, k_iSq, k_lst, k_tup, k_tux, k_pCall, k_fCall, k_valv, k_valf, k_newf, k_add, k_sub, k_lt, k_le, k_gt, k_ge, oEq_int, oNe_int, k_int1, k_abs, k_lens, k_lenl, k_lent, k_lenx, k_set0, k_sets, k_nil]; try rfl)) rfl)]; simp only [pV0, pB0, pB0m, pVs, pBs, k_bind, k_of, k_opS, k_pC, k_p1, k_p2, k_pN, k_fN, k_args0, k_args, k_pOfF, k_sAsg, k_sAsgF, k_sRet, k_sRetF, k_sNx, k_tOf, k_bl, k_tNot, k_iRg, k_iSq, k_lst, k_tup, k_tux, k_pCall, k_fCall, k_valv, k_valf, k_newf, k_add, k_sub, k_lt, k_le, k_gt, k_ge, oEq_int, oNe_int, k_int1, k_abs, k_lens, k_lenl, k_lent, k_lenx, k_set0, k_sets, k_nil]; rfl) ⟨_, _, _, rfl⟩
      (by
        rintro pre row post ρ e ⟨a, b, c, rfl⟩
        have pr := S.perm row (by rw [e]; exact List.mem_cons_of_mem _ (List.mem_append_right _ List.mem_cons_self))
        have nd : row.Nodup := pr.nodup_iff.mpr (intR_nodup n)
        refine ⟨[.im (.lst ((r0 :: rs).map xI)), .im (tI room), .im (lI ((intR n).filter (ab (r0 :: pre) room))), .im (xI row), b, c], [.im (.lst ((r0 :: rs).map xI)), .im (tI room), .im (lI ((intR n).filter (ab (r0 :: (pre ++ [row])) room))), .im (xI row), .im (tI (row.drop (low row room + 1))), c], rfl, ?_, _, _, _, rfl⟩
        rw [sSeq_nx (ρ' := [.im (.lst ((r0 :: rs).map xI)), .im (tI room), .im (lI ((intR n).filter (ab (r0 :: pre) room))), .im (xI row), .im (tI (row.drop (low row room + 1))), c]) (by
          rw [k_sAsg, call_ok (args2 (x := xI row) (y := tI room) (by (simp only [pV0, pB0, pB0m, pVs, pBs, k_bind, k_of, k_opS, k_pC, k_p1, k_p2, k_pN, k_fN, k_args0, k_args, k_pOfF, k_sAsg, k_sAsgF, k_sRet, k_sRetF, k_sNx, k_tOf, k_bl, k_tNot, k_iRg, k_iSq, k_lst, k_tup, k_tux, k_pCall, k_fCall, k_valv, k_valf, k_newf, k_add, k_sub, k_lt, k_le, k_gt, k_ge, oEq_int, oNe_int, k_int1, k_abs, k_lens, k_lenl, k_lent, k_lenx, k_set0, k_sets, k_nil]; try rfl)) (by (simp only [pV0, pB0, pB0m, pVs, pBs, k_bind, k_of, k_opS, k_pC, k_p1, k_p2, k_pN, k_fN, k_args0, k_args, k_pOfF, k_sAsg, k_sAsgF, k_sRet, k_sRetF, k_sNx, k_tOf, k_bl, k_tNot, k_iRg, k_iSq, k_lst, k_tup, k_tux, k_pCall, k_fCall, k_valv, k_valf, k_newf, k_add, k_sub, k_lt, k_le, k_gt, k_ge, oEq_int, oNe_int, k_int1, k_abs, k_lens, k_lenl, k_lent, k_lenx, k_set0, k_sets, k_nil]; try rfl))) (above_ok C pr R)]; rfl)]
        have hc := fComp_ok (own := [5]) (g := gN 5) (it := iSq (pV 2)) (t := tOf (p2 oIn (pB 5) (pB 4))) (e := pV 5) (ρ := [.im (.lst ((r0 :: rs).map xI)), .im (tI room), .im (lI ((intR n).filter (ab (r0 :: pre) room))), .im (xI row), .im (tI (row.drop (low row room + 1))), c]) D.int (fun x => decide (x ∈ row.drop (low row room + 1))) D.int ((intR n).filter (ab (r0 :: pre) room)) (by unfold lI; simp only [pV0, pB0, pB0m, pVs, pBs, k_bind, k_of, k_opS, k_pC, k_p1, k_p2, k_pN, k_fN, k_args0, k_args, k_pOfF, k_sAsg, k_sAsgF, k_sRet, k_sRetF, k_sNx, k_tOf, k_bl, k_tNot, k_iRg, k_iSq, k_lst, k_tup, k_tux, k_pCall, k_fCall, k_valv, k_valf, k_newf, k_add, k_sub, k_lt, k_le, k_gt, k_ge, oEq_int, oNe_int, k_int1, k_abs, k_lens, k_lenl, k_lent, k_lenx, k_set0, k_sets, k_nil])
          (fun x hx => ⟨[.im (.lst ((r0 :: rs).map xI)), .im (tI room), .im (lI ((intR n).filter (ab (r0 :: pre) room))), .im (xI row), .im (tI (row.drop (low row room + 1))), .im (.int x)], by rw [wipe1]; rfl, tOf_ok (p2_ok (x := .int x) (y := tI (row.drop (low row room + 1))) (by (simp only [pV0, pB0, pB0m, pVs, pBs, k_bind, k_of, k_opS, k_pC, k_p1, k_p2, k_pN, k_fN, k_args0, k_args, k_pOfF, k_sAsg, k_sAsgF, k_sRet, k_sRetF, k_sNx, k_tOf, k_bl, k_tNot, k_iRg, k_iSq, k_lst, k_tup, k_tux, k_pCall, k_fCall, k_valv, k_valf, k_newf, k_add, k_sub, k_lt, k_le, k_gt, k_ge, oEq_int, oNe_int, k_int1, k_abs, k_lens, k_lenl, k_lent, k_lenx, k_set0, k_sets, k_nil]; try rfl)) (by (simp only [pV0, pB0, pB0m, pVs, pBs, k_bind, k_of, k_opS, k_pC, k_p1, k_p2, k_pN, k_fN, k_args0, k_args, k_pOfF, k_sAsg, k_sAsgF, k_sRet, k_sRetF, k_sNx, k_tOf, k_bl, k_tNot, k_iRg, k_iSq, k_lst, k_tup, k_tux, k_pCall, k_fCall, k_valv, k_valf, k_newf, k_add, k_sub, k_lt, k_le, k_gt, k_ge, oEq_int, oNe_int, k_int1, k_abs, k_lens, k_lenl, k_lent, k_lenx, k_set0, k_sets, k_nil]; try rfl)) (in_t x _)), fun _ => by (simp only [pV0, pB0, pB0m, pVs, pBs, k_bind, k_of, k_opS, k_pC, k_p1, k_p2, k_pN, k_fN, k_args0, k_args, k_pOfF, k_sAsg, k_sAsgF, k_sRet, k_sRetF, k_sNx, k_tOf, k_bl, k_tNot, k_iRg, k_iSq, k_lst, k_tup, k_tux, k_pCall, k_fCall, k_valv, k_valf, k_newf, k_add, k_sub, k_lt, k_le, k_gt, k_ge, oEq_int, oNe_int, k_int1, k_abs, k_lens, k_lenl, k_lent, k_lenx, k_set0, k_sets, k_nil]; try rfl)⟩)
        rw [k_sAsg, pOfF_ok hc]
        have ef : ((intR n).filter (ab (r0 :: pre) room)).filter (fun x => decide (x ∈ row.drop (low row room + 1))) = (intR n).filter (ab (r0 :: (pre ++ [row])) room) := by
          rw [List.filter_filter]
          refine List.filter_congr fun u hu => ?_
          have e1 : decide (u ∈ row.drop (low row room + 1)) = decide (low row room < row.idxOf u) := by
            have : u ∈ row.drop (low row room + 1) ↔ low row room < row.idxOf u := by
              rw [mem_drop nd]
              exact ⟨fun q => q.2, fun q => ⟨pr.mem_iff.mpr hu, q⟩⟩
            rw [Bool.eq_iff_iff, decide_eq_true_eq, decide_eq_true_eq]
            exact this
          rw [e1]
          unfold ab
          rw [List.all_cons, List.all_cons, List.all_append, List.all_cons, List.all_nil, Bool.and_true, Bool.and_comm, Bool.and_assoc]
        rw [ef]
        rfl)
    rw [sSeq_nx h1]
    rfl
theorem beaters_ok (C : Nat) {g : D} {os : List (List Int)} {f : List Int → D} {v d : Nat} {room : List Int} (G : Good os v d) (I : IsG g os f) (S : Rows ((List.range d).map (fullRow os v)) (v + d)) (R : Room room (v + d)) :
    F_beaters C [g, tI room] = .ret (.val (lI (beat ((List.range d).map (fullRow os v)) (v + d) room))) := by
  rw [e_beaters]
  unfold g_beaters
  have e : ((List.range d).map fun k => xI (fullRow os v k)) = ((List.range d).map (fullRow os v)).map xI := by rw [List.map_map]; rfl
  rw [k_sRet, call_ok (args2 (call_ok (args1 (x := g) (by (simp only [pV0, pB0, pB0m, pVs, pBs, k_bind, k_of, k_opS, k_pC, k_p1, k_p2, k_pN, k_fN, k_args0, k_args, k_pOfF, k_sAsg, k_sAsgF, k_sRet, k_sRetF, k_sNx, k_tOf, k_bl, k_tNot, k_iRg, k_iSq, k_lst, k_tup, k_tux, k_pCall, k_fCall, k_valv, k_valf, k_newf, k_add, k_sub, k_lt, k_le, k_gt, k_ge, oEq_int, oNe_int, k_int1, k_abs, k_lens, k_lenl, k_lent, k_lenx, k_set0, k_sets, k_nil]; try rfl))) (fullo_ok C G I)) (y := tI room) (by (simp only [pV0, pB0, pB0m, pVs, pBs, k_bind, k_of, k_opS, k_pC, k_p1, k_p2, k_pN, k_fN, k_args0, k_args, k_pOfF, k_sAsg, k_sAsgF, k_sRet, k_sRetF, k_sNx, k_tOf, k_bl, k_tNot, k_iRg, k_iSq, k_lst, k_tup, k_tux, k_pCall, k_fCall, k_valv, k_valf, k_newf, k_add, k_sub, k_lt, k_le, k_gt, k_ge, oEq_int, oNe_int, k_int1, k_abs, k_lens, k_lenl, k_lent, k_lenx, k_set0, k_sets, k_nil]; try rfl))) (by rw [RV.d, e]; exact all_ok C S R)]
  simp only [pV0, pB0, pB0m, pVs, pBs, k_bind, k_of, k_opS, k_pC, k_p1, k_p2, k_pN, k_fN, k_args0, k_args, k_pOfF, k_sAsg, k_sAsgF, k_sRet, k_sRetF, k_sNx, k_tOf, k_bl, k_tNot, k_iRg, k_iSq, k_lst, k_tup, k_tux, k_pCall, k_fCall, k_valv, k_valf, k_newf, k_add, k_sub, k_lt, k_le, k_gt, k_ge, oEq_int, oNe_int, k_int1, k_abs, k_lens, k_lenl, k_lent, k_lenx, k_set0, k_sets, k_nil]
  rfl
theorem least_ok (C : Nat) {g : D} {os : List (List Int)} {f : List Int → D} {v d k : Nat} {room : List Int} (G : Good os v d) (I : IsG g os f) (hk : k < d) (R : Room room (v + d)) :
    F_least_place C [g, .int k, tI room] = .ret (.val (.int (fst (fullRow os v k) room))) := by
  rw [e_least_place]
  unfold g_least_place
  rw [k_sRet, call_ok (args2 (p2_ok (call_ok (args1 (x := g) (by (simp only [pV0, pB0, pB0m, pVs, pBs, k_bind, k_of, k_opS, k_pC, k_p1, k_p2, k_pN, k_fN, k_args0, k_args, k_pOfF, k_sAsg, k_sAsgF, k_sRet, k_sRetF, k_sNx, k_tOf, k_bl, k_tNot, k_iRg, k_iSq, k_lst, k_tup, k_tux, k_pCall, k_fCall, k_valv, k_valf, k_newf, k_add, k_sub, k_lt, k_le, k_gt, k_ge, oEq_int, oNe_int, k_int1, k_abs, k_lens, k_lenl, k_lent, k_lenx, k_set0, k_sets, k_nil]; try rfl))) (fullo_ok C G I)) (y := .int k) (by (simp only [pV0, pB0, pB0m, pVs, pBs, k_bind, k_of, k_opS, k_pC, k_p1, k_p2, k_pN, k_fN, k_args0, k_args, k_pOfF, k_sAsg, k_sAsgF, k_sRet, k_sRetF, k_sNx, k_tOf, k_bl, k_tNot, k_iRg, k_iSq, k_lst, k_tup, k_tux, k_pCall, k_fCall, k_valv, k_valf, k_newf, k_add, k_sub, k_lt, k_le, k_gt, k_ge, oEq_int, oNe_int, k_int1, k_abs, k_lens, k_lenl, k_lent, k_lenx, k_set0, k_sets, k_nil]; try rfl)) (z := xI (fullRow os v k)) (ix_l (by rw [List.getElem?_map, List.getElem?_range hk]; rfl))) (y := tI room) (by (simp only [pV0, pB0, pB0m, pVs, pBs, k_bind, k_of, k_opS, k_pC, k_p1, k_p2, k_pN, k_fN, k_args0, k_args, k_pOfF, k_sAsg, k_sAsgF, k_sRet, k_sRetF, k_sNx, k_tOf, k_bl, k_tNot, k_iRg, k_iSq, k_lst, k_tup, k_tux, k_pCall, k_fCall, k_valv, k_valf, k_newf, k_add, k_sub, k_lt, k_le, k_gt, k_ge, oEq_int, oNe_int, k_int1, k_abs, k_lens, k_lenl, k_lent, k_lenx, k_set0, k_sets, k_nil]; try rfl))) (first_ok C (G.row hk) R)]
  simp only [pV0, pB0, pB0m, pVs, pBs, k_bind, k_of, k_opS, k_pC, k_p1, k_p2, k_pN, k_fN, k_args0, k_args, k_pOfF, k_sAsg, k_sAsgF, k_sRet, k_sRetF, k_sNx, k_tOf, k_bl, k_tNot, k_iRg, k_iSq, k_lst, k_tup, k_tux, k_pCall, k_fCall, k_valv, k_valf, k_newf, k_add, k_sub, k_lt, k_le, k_gt, k_ge, oEq_int, oNe_int, k_int1, k_abs, k_lens, k_lenl, k_lent, k_lenx, k_set0, k_sets, k_nil]
  rfl
end K40
end
section
namespace K40
open PySem Pu
theorem mn_eq {ns : List Int} {m : Int} (h : m ∈ ns) (h2 : ∀ y ∈ ns, m ≤ y) : mn ns = some m := by
  cases e : mn ns with
  | none =>
    cases ns with
    | nil => cases h
    | cons x r => cases e
  | some k =>
    obtain ⟨a, b⟩ := mn_is e
    have := b m h
    have := h2 k a
    have : k = m := by omega
    rw [this]
theorem minL {ns : List Int} {m : Int} (h : m ∈ ns) (h2 : ∀ y ∈ ns, m ≤ y) : oMinL [lI ns] = some (.int m) := by
  show (D.ints (ns.map .int)).bind _ = _
  rw [ints_map]
  show (mn ns).map D.int = _
  rw [mn_eq h h2]; rfl
theorem tab_ix {row : List Int} {n : Nat} (h : row.Perm (intR n)) {p : Int} (hp : p ∈ intR n) : oIx (tab row) (.int p) = some (.int (row.idxOf p)) := by
  obtain ⟨h0, h1⟩ := mem_intR.mp hp
  have e : p = (p.toNat : Int) := by omega
  have hl : row.length = n := by rw [h.length_eq, intR_len]
  rw [e]
  refine ix_l ?_
  rw [List.getElem?_map, List.getElem?_map, hl, intR_get (by omega)]
  rfl
theorem low_min {row room : List Int} {n : Nat} (h : row.Perm (intR n)) (R : Room room n) : oMinL [lI (room.map fun p => (row.idxOf p : Int))] = some (.int (low row room)) := by
  obtain ⟨a, b⟩ := fst_mem h R
  refine minL (List.mem_map.mpr ⟨_, b, rfl⟩) fun y hy => ?_
  obtain ⟨p, hp, rfl⟩ := List.mem_map.mp hy
  have := low_le (h.mem_iff.mpr (R.mem p hp)) hp
  omega
theorem filter_all {q : Int → Bool} {l : List Int} : ((l.filter q).length = l.length) ↔ ∀ x ∈ l, q x = true := by
  induction l with
  | nil => simp
  | cons x r ih =>
    by_cases c : q x = true
    · rw [List.filter_cons_of_pos c, List.length_cons, List.length_cons]
      constructor
      · intro h y hy
        rcases List.mem_cons.mp hy with rfl | hy
        · exact c
        · exact ih.mp (by omega) y hy
      · intro h
        have := ih.mpr fun y hy => h y (List.mem_cons_of_mem _ hy)
        omega
    · rw [List.filter_cons_of_neg c, List.length_cons]
      constructor
      · intro h
        have := List.length_filter_le q r
        omega
      · intro h
        exact absurd (h x List.mem_cons_self) c
/-- the test on the k-th row -/
def abk (rows : List (List Int)) (room : List Int) (u k : Int) : Bool := decide (low (rows.getD k.toNat []) room < (rows.getD k.toNat []).idxOf u)
theorem ab_all (rows : List (List Int)) (room : List Int) (u : Int) : (∀ k ∈ intR rows.length, abk rows room u k = true) ↔ ab rows room u = true := by
  unfold ab
  rw [List.all_eq_true]
  constructor
  · intro h r hr
    obtain ⟨i, hi, e⟩ := List.getElem_of_mem hr
    have := h (i : Int) (mem_intR.mpr (by omega))
    unfold abk at this
    rw [Int.toNat_natCast, List.getD_eq_getElem?_getD, List.getElem?_eq_getElem hi] at this
    rw [← e]; exact this
  · intro h k hk
    obtain ⟨h0, h1⟩ := mem_intR.mp hk
    have hi : k.toNat < rows.length := by omega
    unfold abk
    rw [List.getD_eq_getElem?_getD, List.getElem?_eq_getElem hi]
    exact h _ (List.getElem_mem hi)
theorem lbeat_ok (C : Nat) {rows : List (List Int)} {room : List Int} {n : Nat} (S : Rows rows n) (R : Room room n) : F__law_beaters C [.lst (rows.map tab), tI room] = .ret (.fresh ((beat rows n room).map .int)) := by
  have hl := l16
  have := S.few
  have := S.n12
  cases hr : rows with
  | nil => exact absurd hr S.ne
  | cons r0 rs =>
  rw [← hr]
  have h0 : rows[0]? = some r0 := by rw [hr]; rfl
  have p0 := S.perm r0 (by rw [hr]; exact List.mem_cons_self)
  have l0 : r0.length = n := by rw [p0.length_eq, intR_len]
  rw [e__law_beaters]
  unfold g__law_beaters
  have hc := fComp_all (own := [6]) (g := gN 6) (it := iSq (pV 0)) (e := (pN oMinL [(pOfF (fComp [7] (gN 7) (iSq (pV 1)) tYes (p2 oIx (pB 6) (pB 7))))])) (ρ := [.im (.lst (rows.map tab)), .im (tI room), .no, .no, .no, .no, .no, .no, .no]) tab (fun r => .int (low r room)) rows (by simp only [pV0, pB0, pB0m, pVs, pBs, k_bind, k_of, k_opS, k_pC, k_p1, k_p2, k_pN, k_fN, k_args0, k_args, k_pOfF, k_sAsg, k_sAsgF, k_sRet, k_sRetF, k_sNx, k_tOf, k_bl, k_tNot, k_iRg, k_iSq, k_lst, k_tup, k_tux, k_pCall, k_fCall, k_valv, k_valf, k_newf, k_add, k_sub, k_lt, k_le, k_gt, k_ge, oEq_int, oNe_int, k_int1, k_abs, k_lens, k_lenl, k_lent, k_lenx, k_set0, k_sets, k_nil])
    (fun r hr => ⟨[.im (.lst (rows.map tab)), .im (tI room), .no, .no, .no, .no, .im (tab r), .no, .no], by rw [wipe1]; rfl, by
      have pr := S.perm r hr
      have h2 := fComp_all (own := [7]) (g := gN 7) (it := iSq (pV 1)) (e := (p2 oIx (pB 6) (pB 7))) (ρ := [.im (.lst (rows.map tab)), .im (tI room), .no, .no, .no, .no, .im (tab r), .no, .no]) D.int (fun p => .int (r.idxOf p)) room (by unfold tI; simp only [pV0, pB0, pB0m, pVs, pBs, k_bind, k_of, k_opS, k_pC, k_p1, k_p2, k_pN, k_fN, k_args0, k_args, k_pOfF, k_sAsg, k_sAsgF, k_sRet, k_sRetF, k_sNx, k_tOf, k_bl, k_tNot, k_iRg, k_iSq, k_lst, k_tup, k_tux, k_pCall, k_fCall, k_valv, k_valf, k_newf, k_add, k_sub, k_lt, k_le, k_gt, k_ge, oEq_int, oNe_int, k_int1, k_abs, k_lens, k_lenl, k_lent, k_lenx, k_set0, k_sets, k_nil])
        (fun p hp => ⟨[.im (.lst (rows.map tab)), .im (tI room), .no, .no, .no, .no, .im (tab r), .im (.int p), .no], by rw [wipe1]; rfl, p2_ok (x := tab r) (y := .int p) (by (simp only [pV0, pB0, pB0m, pVs, pBs, k_bind, k_of, k_opS, k_pC, k_p1, k_p2, k_pN, k_fN, k_args0, k_args, k_pOfF, k_sAsg, k_sAsgF, k_sRet, k_sRetF, k_sNx, k_tOf, k_bl, k_tNot, k_iRg, k_iSq, k_lst, k_tup, k_tux, k_pCall, k_fCall, k_valv, k_valf, k_newf, k_add, k_sub, k_lt, k_le, k_gt, k_ge, oEq_int, oNe_int, k_int1, k_abs, k_lens, k_lenl, k_lent, k_lenx, k_set0, k_sets, k_nil]; try rfl)) (by (simp only [pV0, pB0, pB0m, pVs, pBs, k_bind, k_of, k_opS, k_pC, k_p1, k_p2, k_pN, k_fN, k_args0, k_args, k_pOfF, k_sAsg, k_sAsgF, k_sRet, k_sRetF, k_sNx, k_tOf, k_bl, k_tNot, k_iRg, k_iSq, k_lst, k_tup, k_tux, k_pCall, k_fCall, k_valv, k_valf, k_newf, k_add, k_sub, k_lt, k_le, k_gt, k_ge, oEq_int, oNe_int, k_int1, k_abs, k_lens, k_lenl, k_lent, k_lenx, k_set0, k_sets, k_nil]; try rfl)) (tab_ix pr (R.mem p hp))⟩)
      refine pN1_ok (pOfF_ok h2) ?_
      have := low_min pr R
      unfold lI at this
      rw [List.map_map] at this
      exact this⟩)
  have e1 : rows.map (fun r => D.int (low r room)) = (rows.map fun r => (low r room : Int)).map .int := by rw [List.map_map]; rfl
  rw [e1] at hc
  rw [sSeq_nx (ρ' := [.im (.lst (rows.map tab)), .im (tI room), .im (lI (rows.map fun r => (low r room : Int))), .no, .no, .no, .no, .no, .no]) (by rw [k_sAsg, pOfF_ok hc]; rfl)]
  rw [sSeq_nx (ρ' := [.im (.lst (rows.map tab)), .im (tI room), .im (lI (rows.map fun r => (low r room : Int))), .ml [], .no, .no, .no, .no, .no]) (by simp only [pV0, pB0, pB0m, pVs, pBs, k_bind, k_of, k_opS, k_pC, k_p1, k_p2, k_pN, k_fN, k_args0, k_args, k_pOfF, k_sAsg, k_sAsgF, k_sRet, k_sRetF, k_sNx, k_tOf, k_bl, k_tNot, k_iRg, k_iSq, k_lst, k_tup, k_tux, k_pCall, k_fCall, k_valv, k_valf, k_newf, k_add, k_sub, k_lt, k_le, k_gt, k_ge, oEq_int, oNe_int, k_int1, k_abs, k_lens, k_lenl, k_lent, k_lenx, k_set0, k_sets, k_nil])]
  obtain ⟨ρ', h1, a, b, rfl⟩ := sFor_inv (g := gN 4) (it := iRg [(pN oLen [(p2 oIx (pB 0) (pC (.int 0)))])]) (b := (sSeq (sAsg (gN 5) (pOfF (fComp [8] (gN 8) (iRg [(pN oLen [(pB 0)])]) (tOf (p2 oGt (p2 oIx (p2 oIx (pB 0) (pB 8)) (pB 4)) (p2 oIx (pB 2) (pB 8)))) (pV 8))))
    (sIf (tOf (p2 oEq (pN oLen [(pB 5)]) (pN oLen [(pB 0)]))) (sApp 3 (pV 4)) sNx))) (ρ := [.im (.lst (rows.map tab)), .im (tI room), .im (lI (rows.map fun r => (low r room : Int))), .ml [], .no, .no, .no, .no, .no]) D.int
    (fun pre ρ => ∃ a b, ρ = [.im (.lst (rows.map tab)), .im (tI room), .im (lI (rows.map fun r => (low r room : Int))), .ml ((pre.filter (ab rows room)).map .int), a, b, .no, .no, .no]) (intR n)
    (by
      rw [k_iRg, fN1_ok (x := .int n) (pN1_ok (x := tab r0) (p2_ok (y := .int ((0 : Nat) : Int)) (by (simp only [pV0, pB0, pB0m, pVs, pBs, k_bind, k_of, k_opS, k_pC, k_p1, k_p2, k_pN, k_fN, k_args0, k_args, k_pOfF, k_sAsg, k_sAsgF, k_sRet, k_sRetF, k_sNx, k_tOf, k_bl, k_tNot, k_iRg, k_iSq, k_lst, k_tup, k_tux, k_pCall, k_fCall, k_valv, k_valf, k_newf, k_add, k_sub, k_lt, k_le, k_gt, k_ge, oEq_int, oNe_int, k_int1, k_abs, k_lens, k_lenl, k_lent, k_lenx, k_set0, k_sets, k_nil]; try rfl)) rfl (ix_l (by rw [List.getElem?_map, h0]; rfl))) (by unfold tab lI; rw [k_lenl, List.length_map, List.length_map, intR_len, l0])) (oRange1 (by omega))]) ⟨_, _, rfl⟩
    (by
      rintro pre u post ρ e ⟨a, b, rfl⟩
      have hu : u ∈ intR n := by rw [e]; exact List.mem_append_right _ List.mem_cons_self
      have hpre : pre.length ≤ 12 := by
        have := congrArg List.length e
        rw [intR_len, List.length_append] at this
        omega
      refine ⟨[.im (.lst (rows.map tab)), .im (tI room), .im (lI (rows.map fun r => (low r room : Int))), .ml ((pre.filter (ab rows room)).map .int), .im (.int u), b, .no, .no, .no], [.im (.lst (rows.map tab)), .im (tI room), .im (lI (rows.map fun r => (low r room : Int))), .ml (((pre ++ [u]).filter (ab rows room)).map .int), .im (.int u), .im (lI ((intR rows.length).filter (abk rows room u))), .no, .no, .no], rfl, ?_, _, _, rfl⟩
      have h2 := fComp_ok (own := [8]) (g := gN 8) (it := iRg [(pN oLen [(pB 0)])]) (t := tOf (p2 oGt (p2 oIx (p2 oIx (pB 0) (pB 8)) (pB 4)) (p2 oIx (pB 2) (pB 8)))) (e := pV 8) (ρ := [.im (.lst (rows.map tab)), .im (tI room), .im (lI (rows.map fun r => (low r room : Int))), .ml ((pre.filter (ab rows room)).map .int), .im (.int u), b, .no, .no, .no]) D.int (abk rows room u) D.int (intR rows.length)
        (by simp only [pV0, pB0, pB0m, pVs, pBs, k_bind, k_of, k_opS, k_pC, k_p1, k_p2, k_pN, k_fN, k_args0, k_args, k_pOfF, k_sAsg, k_sAsgF, k_sRet, k_sRetF, k_sNx, k_tOf, k_bl, k_tNot, k_iRg, k_iSq, k_lst, k_tup, k_tux, k_pCall, k_fCall, k_valv, k_valf, k_newf, k_add, k_sub, k_lt, k_le, k_gt, k_ge, oEq_int, oNe_int, k_int1, k_abs, k_lens, k_lenl, k_lent, k_lenx, k_set0, k_sets, k_nil]; rw [List.length_map, oRange1 (by omega)]; simp only [pV0, pB0, pB0m, pVs, pBs, k_bind, k_of, k_opS, k_pC, k_p1, k_p2, k_pN, k_fN, k_args0, k_args, k_pOfF, k_sAsg, k_sAsgF, k_sRet, k_sRetF, k_sNx, k_tOf, k_bl, k_tNot, k_iRg, k_iSq, k_lst, k_tup, k_tux, k_pCall, k_fCall, k_valv, k_valf, k_newf, k_add, k_sub, k_lt, k_le, k_gt, k_ge, oEq_int, oNe_int, k_int1, k_abs, k_lens, k_lenl, k_lent, k_lenx, k_set0, k_sets, k_nil]) (fun k hk => by
          obtain ⟨k0, k1⟩ := mem_intR.mp hk
          have ek : k = (k.toNat : Int) := by omega
          have hk' : k.toNat < rows.length := by omega
          have hrk : rows[k.toNat]? = some rows[k.toNat] := List.getElem?_eq_getElem hk'
          refine ⟨[.im (.lst (rows.map tab)), .im (tI room), .im (lI (rows.map fun r => (low r room : Int))), .ml ((pre.filter (ab rows room)).map .int), .im (.int u), b, .no, .no, .im (.int k)], by rw [wipe1]; rfl, ?_, fun _ => by (simp only [pV0, pB0, pB0m, pVs, pBs, k_bind, k_of, k_opS, k_pC, k_p1, k_p2, k_pN, k_fN, k_args0, k_args, k_pOfF, k_sAsg, k_sAsgF, k_sRet, k_sRetF, k_sNx, k_tOf, k_bl, k_tNot, k_iRg, k_iSq, k_lst, k_tup, k_tux, k_pCall, k_fCall, k_valv, k_valf, k_newf, k_add, k_sub, k_lt, k_le, k_gt, k_ge, oEq_int, oNe_int, k_int1, k_abs, k_lens, k_lenl, k_lent, k_lenx, k_set0, k_sets, k_nil]; try rfl)⟩
          refine tOf_ok (p2_ok (x := .int (rows[k.toNat].idxOf u)) (y := .int (low rows[k.toNat] room)) (p2_ok (x := tab rows[k.toNat]) (y := .int u) (p2_ok (y := .int (k.toNat : Int)) (by (simp only [pV0, pB0, pB0m, pVs, pBs, k_bind, k_of, k_opS, k_pC, k_p1, k_p2, k_pN, k_fN, k_args0, k_args, k_pOfF, k_sAsg, k_sAsgF, k_sRet, k_sRetF, k_sNx, k_tOf, k_bl, k_tNot, k_iRg, k_iSq, k_lst, k_tup, k_tux, k_pCall, k_fCall, k_valv, k_valf, k_newf, k_add, k_sub, k_lt, k_le, k_gt, k_ge, oEq_int, oNe_int, k_int1, k_abs, k_lens, k_lenl, k_lent, k_lenx, k_set0, k_sets, k_nil]; try rfl)) (by rw [← ek]; rfl) (ix_l (by rw [List.getElem?_map, hrk]; rfl))) (by (simp only [pV0, pB0, pB0m, pVs, pBs, k_bind, k_of, k_opS, k_pC, k_p1, k_p2, k_pN, k_fN, k_args0, k_args, k_pOfF, k_sAsg, k_sAsgF, k_sRet, k_sRetF, k_sNx, k_tOf, k_bl, k_tNot, k_iRg, k_iSq, k_lst, k_tup, k_tux, k_pCall, k_fCall, k_valv, k_valf, k_newf, k_add, k_sub, k_lt, k_le, k_gt, k_ge, oEq_int, oNe_int, k_int1, k_abs, k_lens, k_lenl, k_lent, k_lenx, k_set0, k_sets, k_nil]; try rfl)) (tab_ix (S.perm _ (List.getElem_mem hk')) hu)) (p2_ok (x := lI (rows.map fun r => (low r room : Int))) (y := .int (k.toNat : Int)) (by (simp only [pV0, pB0, pB0m, pVs, pBs, k_bind, k_of, k_opS, k_pC, k_p1, k_p2, k_pN, k_fN, k_args0, k_args, k_pOfF, k_sAsg, k_sAsgF, k_sRet, k_sRetF, k_sNx, k_tOf, k_bl, k_tNot, k_iRg, k_iSq, k_lst, k_tup, k_tux, k_pCall, k_fCall, k_valv, k_valf, k_newf, k_add, k_sub, k_lt, k_le, k_gt, k_ge, oEq_int, oNe_int, k_int1, k_abs, k_lens, k_lenl, k_lent, k_lenx, k_set0, k_sets, k_nil]; try rfl)) (by rw [← ek]; rfl) (ix_l (by rw [List.getElem?_map, List.getElem?_map, hrk]; rfl))) ?_)
          rw [k_gt]
          unfold abk
          rw [List.getD_eq_getElem?_getD, hrk]
          exact congrArg (fun b => some (D.bl b)) (decide_eq_decide.mpr (by show ((low rows[k.toNat] room : Nat) : Int) < ((rows[k.toNat].idxOf u : Nat) : Int) ↔ low rows[k.toNat] room < rows[k.toNat].idxOf u; omega)))
      rw [sSeq_nx (ρ' := [.im (.lst (rows.map tab)), .im (tI room), .im (lI (rows.map fun r => (low r room : Int))), .ml ((pre.filter (ab rows room)).map .int), .im (.int u), .im (lI ((intR rows.length).filter (abk rows room u))), .no, .no, .no]) (by rw [k_sAsg, pOfF_ok h2]; rfl)]
      have hfl := filter_all (q := abk rows room u) (l := intR rows.length)
      rw [intR_len] at hfl
      have ht : tOf (p2 oEq (pN oLen [(pB 5)]) (pN oLen [(pB 0)])) [.im (.lst (rows.map tab)), .im (tI room), .im (lI (rows.map fun r => (low r room : Int))), .ml ((pre.filter (ab rows room)).map .int), .im (.int u), .im (lI ((intR rows.length).filter (abk rows room u))), .no, .no, .no] = .ok (ab rows room u) := by
        refine tOf_ok (p2_ok (x := .int ((intR rows.length).filter (abk rows room u)).length) (y := .int rows.length) (by simp only [pV0, pB0, pB0m, pVs, pBs, k_bind, k_of, k_opS, k_pC, k_p1, k_p2, k_pN, k_fN, k_args0, k_args, k_pOfF, k_sAsg, k_sAsgF, k_sRet, k_sRetF, k_sNx, k_tOf, k_bl, k_tNot, k_iRg, k_iSq, k_lst, k_tup, k_tux, k_pCall, k_fCall, k_valv, k_valf, k_newf, k_add, k_sub, k_lt, k_le, k_gt, k_ge, oEq_int, oNe_int, k_int1, k_abs, k_lens, k_lenl, k_lent, k_lenx, k_set0, k_sets, k_nil]; unfold lI; simp only [pV0, pB0, pB0m, pVs, pBs, k_bind, k_of, k_opS, k_pC, k_p1, k_p2, k_pN, k_fN, k_args0, k_args, k_pOfF, k_sAsg, k_sAsgF, k_sRet, k_sRetF, k_sNx, k_tOf, k_bl, k_tNot, k_iRg, k_iSq, k_lst, k_tup, k_tux, k_pCall, k_fCall, k_valv, k_valf, k_newf, k_add, k_sub, k_lt, k_le, k_gt, k_ge, oEq_int, oNe_int, k_int1, k_abs, k_lens, k_lenl, k_lent, k_lenx, k_set0, k_sets, k_nil]; rw [List.length_map]) (by simp only [pV0, pB0, pB0m, pVs, pBs, k_bind, k_of, k_opS, k_pC, k_p1, k_p2, k_pN, k_fN, k_args0, k_args, k_pOfF, k_sAsg, k_sAsgF, k_sRet, k_sRetF, k_sNx, k_tOf, k_bl, k_tNot, k_iRg, k_iSq, k_lst, k_tup, k_tux, k_pCall, k_fCall, k_valv, k_valf, k_newf, k_add, k_sub, k_lt, k_le, k_gt, k_ge, oEq_int, oNe_int, k_int1, k_abs, k_lens, k_lenl, k_lent, k_lenx, k_set0, k_sets, k_nil]; rw [List.length_map]) ?_)
        rw [oEq_int]
        refine congrArg (fun b => some (D.bl b)) ?_
        rw [Bool.eq_iff_iff, decide_eq_true_eq, ← ab_all, ← hfl]
        exact ⟨fun h => by omega, fun h => by omega⟩
      by_cases c : ab rows room u = true
      · rw [sIf_t (by rw [ht, c]), sApp_eq (xs := (pre.filter (ab rows room)).map .int) (d := .int u) rfl (by (simp only [pV0, pB0, pB0m, pVs, pBs, k_bind, k_of, k_opS, k_pC, k_p1, k_p2, k_pN, k_fN, k_args0, k_args, k_pOfF, k_sAsg, k_sAsgF, k_sRet, k_sRetF, k_sNx, k_tOf, k_bl, k_tNot, k_iRg, k_iSq, k_lst, k_tup, k_tux, k_pCall, k_fCall, k_valv, k_valf, k_newf, k_add, k_sub, k_lt, k_le, k_gt, k_ge, oEq_int, oNe_int, k_int1, k_abs, k_lens, k_lenl, k_lent, k_lenx, k_set0, k_sets, k_nil]; try rfl)) (by rw [List.length_map]; have := List.length_filter_le (ab rows room) pre; omega)]
        simp only [k_set0, k_sets]
        rw [List.filter_append, List.filter_cons_of_pos c, List.filter_nil, List.map_append]
        rfl
      · rw [sIf_f (by rw [ht]; exact congrArg OP.ok (by simpa using c)), List.filter_append, List.filter_cons_of_neg c, List.filter_nil, List.append_nil]
        rfl)
  rw [sSeq_nx h1]
  rfl
end K40
end
section
namespace K40
open PySem Pu
theorem Good.rows {os : List (List Int)} {v d : Nat} (G : Good os v d) : Rows ((List.range d).map (fullRow os v)) (v + d) := by
  have := G.d1
  have := G.d4
  have := G.v1
  have := G.v8
  refine ⟨fun r hr => ?_, ?_, by rw [List.length_map, List.length_range]; exact G.d4, by omega, by omega⟩
  · obtain ⟨k, hk, rfl⟩ := List.mem_map.mp hr
    exact G.row (List.mem_range.mp hk)
  · intro e
    have := congrArg List.length e
    rw [List.length_map, List.length_range] at this
    have : d = 0 := this
    omega
def ranksD (os : List (List Int)) (v d : Nat) : D := .lst (((List.range d).map (fullRow os v)).map tab)
theorem one_ok (C : Nat) {g : D} {os : List (List Int)} {f : List Int → D} {v d : Nat} {room : List Int} (G : Good os v d) (I : IsG g os f) (R : Room room (v + d)) : F__law_one_room C [g, ranksD os v d, tI room] = .ret (.val (.bl true)) := by
  have hl := l16
  have := G.d4
  have := G.v8
  have S := G.rows
  have hb := R.len
  have lb : (beat ((List.range d).map (fullRow os v)) (v + d) room).length ≤ 100000 := Nat.le_trans (List.length_filter_le _ _) (by rw [intR_len]; omega)
  have lr : ((List.range d).map (fullRow os v)).length = d := by rw [List.length_map, List.length_range]
  rw [e__law_one_room]
  unfold g__law_one_room
  rw [sSeq_nx (ρ' := [.im g, .im (ranksD os v d), .im (tI room), .im (lI (beat ((List.range d).map (fullRow os v)) (v + d) room)), .no, .no, .no]) (by
    rw [k_sAsg, call_ok (args2 (x := g) (y := tI room) (by (simp only [pV0, pB0, pB0m, pVs, pBs, k_bind, k_of, k_opS, k_pC, k_p1, k_p2, k_pN, k_fN, k_args0, k_args, k_pOfF, k_sAsg, k_sAsgF, k_sRet, k_sRetF, k_sNx, k_tOf, k_bl, k_tNot, k_iRg, k_iSq, k_lst, k_tup, k_tux, k_pCall, k_fCall, k_valv, k_valf, k_newf, k_add, k_sub, k_lt, k_le, k_gt, k_ge, oEq_int, oNe_int, k_int1, k_abs, k_lens, k_lenl, k_lent, k_lenx, k_set0, k_sets, k_nil]; try rfl)) (by (simp only [pV0, pB0, pB0m, pVs, pBs, k_bind, k_of, k_opS, k_pC, k_p1, k_p2, k_pN, k_fN, k_args0, k_args, k_pOfF, k_sAsg, k_sAsgF, k_sRet, k_sRetF, k_sNx, k_tOf, k_bl, k_tNot, k_iRg, k_iSq, k_lst, k_tup, k_tux, k_pCall, k_fCall, k_valv, k_valf, k_newf, k_add, k_sub, k_lt, k_le, k_gt, k_ge, oEq_int, oNe_int, k_int1, k_abs, k_lens, k_lenl, k_lent, k_lenx, k_set0, k_sets, k_nil]; try rfl))) (beaters_ok C G I S R)]; rfl)]
  rw [sSeq_nx (ρ' := [.im g, .im (ranksD os v d), .im (tI room), .im (lI (beat ((List.range d).map (fullRow os v)) (v + d) room)), .no, .no, .no]) (by
    rw [sIf_f (tOr_f (tNot_t (tOf_ok (p1_ok (x := lI (beat ((List.range d).map (fullRow os v)) (v + d) room)) (by (simp only [pV0, pB0, pB0m, pVs, pBs, k_bind, k_of, k_opS, k_pC, k_p1, k_p2, k_pN, k_fN, k_args0, k_args, k_pOfF, k_sAsg, k_sAsgF, k_sRet, k_sRetF, k_sNx, k_tOf, k_bl, k_tNot, k_iRg, k_iSq, k_lst, k_tup, k_tux, k_pCall, k_fCall, k_valv, k_valf, k_newf, k_add, k_sub, k_lt, k_le, k_gt, k_ge, oEq_int, oNe_int, k_int1, k_abs, k_lens, k_lenl, k_lent, k_lenx, k_set0, k_sets, k_nil]; try rfl)) rfl))) (tNot_t (tOf_ok (call_ok (args2 (x := lI (beat ((List.range d).map (fullRow os v)) (v + d) room)) (by (simp only [pV0, pB0, pB0m, pVs, pBs, k_bind, k_of, k_opS, k_pC, k_p1, k_p2, k_pN, k_fN, k_args0, k_args, k_pOfF, k_sAsg, k_sAsgF, k_sRet, k_sRetF, k_sNx, k_tOf, k_bl, k_tNot, k_iRg, k_iSq, k_lst, k_tup, k_tux, k_pCall, k_fCall, k_valv, k_valf, k_newf, k_add, k_sub, k_lt, k_le, k_gt, k_ge, oEq_int, oNe_int, k_int1, k_abs, k_lens, k_lenl, k_lent, k_lenx, k_set0, k_sets, k_nil]; try rfl)) (call_ok (args2 (x := ranksD os v d) (y := tI room) (by (simp only [pV0, pB0, pB0m, pVs, pBs, k_bind, k_of, k_opS, k_pC, k_p1, k_p2, k_pN, k_fN, k_args0, k_args, k_pOfF, k_sAsg, k_sAsgF, k_sRet, k_sRetF, k_sNx, k_tOf, k_bl, k_tNot, k_iRg, k_iSq, k_lst, k_tup, k_tux, k_pCall, k_fCall, k_valv, k_valf, k_newf, k_add, k_sub, k_lt, k_le, k_gt, k_ge, oEq_int, oNe_int, k_int1, k_abs, k_lens, k_lenl, k_lent, k_lenx, k_set0, k_sets, k_nil]; try rfl)) (by (simp only [pV0, pB0, pB0m, pVs, pBs, k_bind, k_of, k_opS, k_pC, k_p1, k_p2, k_pN, k_fN, k_args0, k_args, k_pOfF, k_sAsg, k_sAsgF, k_sRet, k_sRetF, k_sNx, k_tOf, k_bl, k_tNot, k_iRg, k_iSq, k_lst, k_tup, k_tux, k_pCall, k_fCall, k_valv, k_valf, k_newf, k_add, k_sub, k_lt, k_le, k_gt, k_ge, oEq_int, oNe_int, k_int1, k_abs, k_lens, k_lenl, k_lent, k_lenx, k_set0, k_sets, k_nil]; try rfl))) (lbeat_ok C S R))) (row_ok C (.l _) (.l _) lb)))))]
    rfl)]
  obtain ⟨ρ', h1, a, b, c, rfl⟩ := sFor_inv (g := gN 4) (it := iRg [(pN oLen [(pB 1)])]) (b := (sSeq (sAsg (gN 5) (pCall (F_least_place C) [(pV 0), (pV 4), (pV 2)]))
    (sSeq (sIf (tOr (tOf (p2 oNotIn (pB 5) (pB 2))) (tNot (tOf (pCall (F__law_row C) [(pOfF (nLst [(pV 5)])), (pOfF (nLst [(pV 5)]))])))) (sRet (pC (.bl false))) sNx)
    (sIf (tOf (p2 oNe (p2 oIx (p2 oIx (pB 1) (pB 4)) (pB 5)) (pN oMinL [(pOfF (fComp [6] (gN 6) (iSq (pV 2)) tYes (p2 oIx (p2 oIx (pB 1) (pB 4)) (pB 6))))]))) (sRet (pC (.bl false))) sNx))))
    (ρ := [.im g, .im (ranksD os v d), .im (tI room), .im (lI (beat ((List.range d).map (fullRow os v)) (v + d) room)), .no, .no, .no]) D.int
    (fun pre ρ => ∃ a b c, ρ = [.im g, .im (ranksD os v d), .im (tI room), .im (lI (beat ((List.range d).map (fullRow os v)) (v + d) room)), a, b, c]) (intR d)
    (by rw [k_iRg, fN1_ok (x := .int d) (pN1_ok (x := ranksD os v d) (by (simp only [pV0, pB0, pB0m, pVs, pBs, k_bind, k_of, k_opS, k_pC, k_p1, k_p2, k_pN, k_fN, k_args0, k_args, k_pOfF, k_sAsg, k_sAsgF, k_sRet, k_sRetF, k_sNx, k_tOf, k_bl, k_tNot, k_iRg, k_iSq, k_lst, k_tup, k_tux, k_pCall, k_fCall, k_valv, k_valf, k_newf, k_add, k_sub, k_lt, k_le, k_gt, k_ge, oEq_int, oNe_int, k_int1, k_abs, k_lens, k_lenl, k_lent, k_lenx, k_set0, k_sets, k_nil]; try rfl)) (by unfold ranksD; rw [k_lenl, List.length_map, lr])) (oRange1 (by omega))]) ⟨_, _, _, rfl⟩
    (by
      rintro pre x post ρ e ⟨a, b, c, rfl⟩
      obtain ⟨rfl, hk⟩ := intR_split e
      have pr := G.row hk
      obtain ⟨m1, m2⟩ := fst_mem pr R
      have hix : oIx (ranksD os v d) (.int pre.length) = some (tab (fullRow os v pre.length)) := ix_l (by rw [List.getElem?_map, List.getElem?_map, List.getElem?_range hk]; rfl)
      generalize hB : lI (beat ((List.range d).map (fullRow os v)) (v + d) room) = B
      refine ⟨[.im g, .im (ranksD os v d), .im (tI room), .im B, .im (.int pre.length), b, c], [.im g, .im (ranksD os v d), .im (tI room), .im B, .im (.int pre.length), .im (.int (fst (fullRow os v pre.length) room)), c], rfl, ?_, _, _, _, rfl⟩
      rw [sSeq_nx (ρ' := [.im g, .im (ranksD os v d), .im (tI room), .im B, .im (.int pre.length), .im (.int (fst (fullRow os v pre.length) room)), c]) (by
        rw [k_sAsg, call_ok (args3 (x := g) (y := .int pre.length) (z := tI room) (by (simp only [pV0, pB0, pB0m, pVs, pBs, k_bind, k_of, k_opS, k_pC, k_p1, k_p2, k_pN, k_fN, k_args0, k_args, k_pOfF, k_sAsg, k_sAsgF, k_sRet, k_sRetF, k_sNx, k_tOf, k_bl, k_tNot, k_iRg, k_iSq, k_lst, k_tup, k_tux, k_pCall, k_fCall, k_valv, k_valf, k_newf, k_add, k_sub, k_lt, k_le, k_gt, k_ge, oEq_int, oNe_int, k_int1, k_abs, k_lens, k_lenl, k_lent, k_lenx, k_set0, k_sets, k_nil]; try rfl)) (by (simp only [pV0, pB0, pB0m, pVs, pBs, k_bind, k_of, k_opS, k_pC, k_p1, k_p2, k_pN, k_fN, k_args0, k_args, k_pOfF, k_sAsg, k_sAsgF, k_sRet, k_sRetF, k_sNx, k_tOf, k_bl, k_tNot, k_iRg, k_iSq, k_lst, k_tup, k_tux, k_pCall, k_fCall, k_valv, k_valf, k_newf, k_add, k_sub, k_lt, k_le, k_gt, k_ge, oEq_int, oNe_int, k_int1, k_abs, k_lens, k_lenl, k_lent, k_lenx, k_set0, k_sets, k_nil]; try rfl)) (by (simp only [pV0, pB0, pB0m, pVs, pBs, k_bind, k_of, k_opS, k_pC, k_p1, k_p2, k_pN, k_fN, k_args0, k_args, k_pOfF, k_sAsg, k_sAsgF, k_sRet, k_sRetF, k_sNx, k_tOf, k_bl, k_tNot, k_iRg, k_iSq, k_lst, k_tup, k_tux, k_pCall, k_fCall, k_valv, k_valf, k_newf, k_add, k_sub, k_lt, k_le, k_gt, k_ge, oEq_int, oNe_int, k_int1, k_abs, k_lens, k_lenl, k_lent, k_lenx, k_set0, k_sets, k_nil]; try rfl))) (least_ok C G I hk R)]; rfl)]
      have h5 : (pOfF (nLst [(pV 5)])) [.im g, .im (ranksD os v d), .im (tI room), .im B, .im (.int pre.length), .im (.int (fst (fullRow os v pre.length) room)), c] = .ok (lI [fst (fullRow os v pre.length) room]) := pOfF_ok (k_nLst _ _ (args1 (by (simp only [pV0, pB0, pB0m, pVs, pBs, k_bind, k_of, k_opS, k_pC, k_p1, k_p2, k_pN, k_fN, k_args0, k_args, k_pOfF, k_sAsg, k_sAsgF, k_sRet, k_sRetF, k_sNx, k_tOf, k_bl, k_tNot, k_iRg, k_iSq, k_lst, k_tup, k_tux, k_pCall, k_fCall, k_valv, k_valf, k_newf, k_add, k_sub, k_lt, k_le, k_gt, k_ge, oEq_int, oNe_int, k_int1, k_abs, k_lens, k_lenl, k_lent, k_lenx, k_set0, k_sets, k_nil]; try rfl))) (by show 1 ≤ line; omega))
      rw [sSeq_nx (ρ' := [.im g, .im (ranksD os v d), .im (tI room), .im B, .im (.int pre.length), .im (.int (fst (fullRow os v pre.length) room)), c]) (by
        rw [sIf_f (tOr_f (tOf_ok (p2_ok (x := .int (fst (fullRow os v pre.length) room)) (y := tI room) (by (simp only [pV0, pB0, pB0m, pVs, pBs, k_bind, k_of, k_opS, k_pC, k_p1, k_p2, k_pN, k_fN, k_args0, k_args, k_pOfF, k_sAsg, k_sAsgF, k_sRet, k_sRetF, k_sNx, k_tOf, k_bl, k_tNot, k_iRg, k_iSq, k_lst, k_tup, k_tux, k_pCall, k_fCall, k_valv, k_valf, k_newf, k_add, k_sub, k_lt, k_le, k_gt, k_ge, oEq_int, oNe_int, k_int1, k_abs, k_lens, k_lenl, k_lent, k_lenx, k_set0, k_sets, k_nil]; try rfl)) (by (simp only [pV0, pB0, pB0m, pVs, pBs, k_bind, k_of, k_opS, k_pC, k_p1, k_p2, k_pN, k_fN, k_args0, k_args, k_pOfF, k_sAsg, k_sAsgF, k_sRet, k_sRetF, k_sNx, k_tOf, k_bl, k_tNot, k_iRg, k_iSq, k_lst, k_tup, k_tux, k_pCall, k_fCall, k_valv, k_valf, k_newf, k_add, k_sub, k_lt, k_le, k_gt, k_ge, oEq_int, oNe_int, k_int1, k_abs, k_lens, k_lenl, k_lent, k_lenx, k_set0, k_sets, k_nil]; try rfl)) (by rw [nin_t, decide_eq_true m2]; rfl))) (tNot_t (tOf_ok (call_ok (args2 h5 h5) (row_ok C (.l _) (.l _) (by show 1 ≤ 100000; omega))))))]
        rfl)]
      have h2 := fComp_all (own := [6]) (g := gN 6) (it := iSq (pV 2)) (e := p2 oIx (p2 oIx (pB 1) (pB 4)) (pB 6)) (ρ := [.im g, .im (ranksD os v d), .im (tI room), .im B, .im (.int pre.length), .im (.int (fst (fullRow os v pre.length) room)), c]) D.int (fun p => .int ((fullRow os v pre.length).idxOf p)) room (by unfold tI; simp only [pV0, pB0, pB0m, pVs, pBs, k_bind, k_of, k_opS, k_pC, k_p1, k_p2, k_pN, k_fN, k_args0, k_args, k_pOfF, k_sAsg, k_sAsgF, k_sRet, k_sRetF, k_sNx, k_tOf, k_bl, k_tNot, k_iRg, k_iSq, k_lst, k_tup, k_tux, k_pCall, k_fCall, k_valv, k_valf, k_newf, k_add, k_sub, k_lt, k_le, k_gt, k_ge, oEq_int, oNe_int, k_int1, k_abs, k_lens, k_lenl, k_lent, k_lenx, k_set0, k_sets, k_nil])
        (fun p hp => ⟨[.im g, .im (ranksD os v d), .im (tI room), .im B, .im (.int pre.length), .im (.int (fst (fullRow os v pre.length) room)), .im (.int p)], by rw [wipe1]; rfl, p2_ok (y := .int p) (p2_ok (x := ranksD os v d) (y := .int pre.length) (by (simp only [pV0, pB0, pB0m, pVs, pBs, k_bind, k_of, k_opS, k_pC, k_p1, k_p2, k_pN, k_fN, k_args0, k_args, k_pOfF, k_sAsg, k_sAsgF, k_sRet, k_sRetF, k_sNx, k_tOf, k_bl, k_tNot, k_iRg, k_iSq, k_lst, k_tup, k_tux, k_pCall, k_fCall, k_valv, k_valf, k_newf, k_add, k_sub, k_lt, k_le, k_gt, k_ge, oEq_int, oNe_int, k_int1, k_abs, k_lens, k_lenl, k_lent, k_lenx, k_set0, k_sets, k_nil]; try rfl)) (by (simp only [pV0, pB0, pB0m, pVs, pBs, k_bind, k_of, k_opS, k_pC, k_p1, k_p2, k_pN, k_fN, k_args0, k_args, k_pOfF, k_sAsg, k_sAsgF, k_sRet, k_sRetF, k_sNx, k_tOf, k_bl, k_tNot, k_iRg, k_iSq, k_lst, k_tup, k_tux, k_pCall, k_fCall, k_valv, k_valf, k_newf, k_add, k_sub, k_lt, k_le, k_gt, k_ge, oEq_int, oNe_int, k_int1, k_abs, k_lens, k_lenl, k_lent, k_lenx, k_set0, k_sets, k_nil]; try rfl)) hix) (by (simp only [pV0, pB0, pB0m, pVs, pBs, k_bind, k_of, k_opS, k_pC, k_p1, k_p2, k_pN, k_fN, k_args0, k_args, k_pOfF, k_sAsg, k_sAsgF, k_sRet, k_sRetF, k_sNx, k_tOf, k_bl, k_tNot, k_iRg, k_iSq, k_lst, k_tup, k_tux, k_pCall, k_fCall, k_valv, k_valf, k_newf, k_add, k_sub, k_lt, k_le, k_gt, k_ge, oEq_int, oNe_int, k_int1, k_abs, k_lens, k_lenl, k_lent, k_lenx, k_set0, k_sets, k_nil]; try rfl)) (tab_ix pr (R.mem p hp))⟩)
      have hm := low_min pr R
      unfold lI at hm
      rw [List.map_map] at hm
      rw [sIf_f (tOf_ok (p2_ok (x := .int (low (fullRow os v pre.length) room)) (y := .int (low (fullRow os v pre.length) room)) (p2_ok (y := .int (fst (fullRow os v pre.length) room)) (p2_ok (x := ranksD os v d) (y := .int pre.length) (by (simp only [pV0, pB0, pB0m, pVs, pBs, k_bind, k_of, k_opS, k_pC, k_p1, k_p2, k_pN, k_fN, k_args0, k_args, k_pOfF, k_sAsg, k_sAsgF, k_sRet, k_sRetF, k_sNx, k_tOf, k_bl, k_tNot, k_iRg, k_iSq, k_lst, k_tup, k_tux, k_pCall, k_fCall, k_valv, k_valf, k_newf, k_add, k_sub, k_lt, k_le, k_gt, k_ge, oEq_int, oNe_int, k_int1, k_abs, k_lens, k_lenl, k_lent, k_lenx, k_set0, k_sets, k_nil]; try rfl)) (by (simp only [pV0, pB0, pB0m, pVs, pBs, k_bind, k_of, k_opS, k_pC, k_p1, k_p2, k_pN, k_fN, k_args0, k_args, k_pOfF, k_sAsg, k_sAsgF, k_sRet, k_sRetF, k_sNx, k_tOf, k_bl, k_tNot, k_iRg, k_iSq, k_lst, k_tup, k_tux, k_pCall, k_fCall, k_valv, k_valf, k_newf, k_add, k_sub, k_lt, k_le, k_gt, k_ge, oEq_int, oNe_int, k_int1, k_abs, k_lens, k_lenl, k_lent, k_lenx, k_set0, k_sets, k_nil]; try rfl)) hix) (by (simp only [pV0, pB0, pB0m, pVs, pBs, k_bind, k_of, k_opS, k_pC, k_p1, k_p2, k_pN, k_fN, k_args0, k_args, k_pOfF, k_sAsg, k_sAsgF, k_sRet, k_sRetF, k_sNx, k_tOf, k_bl, k_tNot, k_iRg, k_iSq, k_lst, k_tup, k_tux, k_pCall, k_fCall, k_valv, k_valf, k_newf, k_add, k_sub, k_lt, k_le, k_gt, k_ge, oEq_int, oNe_int, k_int1, k_abs, k_lens, k_lenl, k_lent, k_lenx, k_set0, k_sets, k_nil]; try rfl)) (tab_ix pr (R.mem _ m2))) (pN1_ok (pOfF_ok h2) hm) (by rw [oNe_int, decide_eq_true rfl]; rfl)))]
      rfl)
  rw [sSeq_nx h1]
  rfl
theorem bits_ok (C : Nat) {n : Nat} {c : Int} (hc : 0 ≤ c) (h1 : 1 ≤ n) (h2 : n ≤ 12) : ∃ room, Room room n ∧ F__law_by_bits C [.int n, .int c] = .ret (.val (tI room)) := by
  have hl := l16
  rw [e__law_by_bits]
  unfold g__law_by_bits
  rw [sSeq_nx (ρ' := [.im (.int n), .im (.int c), .ml [], .no]) (by simp only [pV0, pB0, pB0m, pVs, pBs, k_bind, k_of, k_opS, k_pC, k_p1, k_p2, k_pN, k_fN, k_args0, k_args, k_pOfF, k_sAsg, k_sAsgF, k_sRet, k_sRetF, k_sNx, k_tOf, k_bl, k_tNot, k_iRg, k_iSq, k_lst, k_tup, k_tux, k_pCall, k_fCall, k_valv, k_valf, k_newf, k_add, k_sub, k_lt, k_le, k_gt, k_ge, oEq_int, oNe_int, k_int1, k_abs, k_lens, k_lenl, k_lent, k_lenx, k_set0, k_sets, k_nil])]
  obtain ⟨ρ', h1', c', room, a, rfl, _, hm, hlen⟩ := sFor_inv (g := gN 3) (it := iRg [(pV 0)]) (b := (sSeq (sIf (tOf (p2 oEq (p2 oMod (pN oInt1 [(pB 1)]) (pC (.int 2))) (pC (.int 1)))) (sApp 2 (pV 3)) sNx) (sAsg (gN 1) (p2 oDiv (pB 1) (pC (.int 2)))))) (ρ := [.im (.int n), .im (.int c), .ml [], .no]) D.int
    (fun pre ρ => ∃ (c' : Int) (room : List Int) (a : S), ρ = [.im (.int n), .im (.int c'), .ml (room.map .int), a] ∧ 0 ≤ c' ∧ (∀ x ∈ room, x ∈ intR n) ∧ room.length ≤ pre.length) (intR n) (by simp only [pV0, pB0, pB0m, pVs, pBs, k_bind, k_of, k_opS, k_pC, k_p1, k_p2, k_pN, k_fN, k_args0, k_args, k_pOfF, k_sAsg, k_sAsgF, k_sRet, k_sRetF, k_sNx, k_tOf, k_bl, k_tNot, k_iRg, k_iSq, k_lst, k_tup, k_tux, k_pCall, k_fCall, k_valv, k_valf, k_newf, k_add, k_sub, k_lt, k_le, k_gt, k_ge, oEq_int, oNe_int, k_int1, k_abs, k_lens, k_lenl, k_lent, k_lenx, k_set0, k_sets, k_nil]; rw [oRange1 (by omega)]; simp only [pV0, pB0, pB0m, pVs, pBs, k_bind, k_of, k_opS, k_pC, k_p1, k_p2, k_pN, k_fN, k_args0, k_args, k_pOfF, k_sAsg, k_sAsgF, k_sRet, k_sRetF, k_sNx, k_tOf, k_bl, k_tNot, k_iRg, k_iSq, k_lst, k_tup, k_tux, k_pCall, k_fCall, k_valv, k_valf, k_newf, k_add, k_sub, k_lt, k_le, k_gt, k_ge, oEq_int, oNe_int, k_int1, k_abs, k_lens, k_lenl, k_lent, k_lenx, k_set0, k_sets, k_nil]) ⟨c, [], _, rfl, hc, (fun x hx => absurd hx (by simp)), Nat.le_refl _⟩
    (by
      rintro pre x post ρ e ⟨c', room, a, rfl, hc', hm, hlen⟩
      have hx : x ∈ intR n := by rw [e]; exact List.mem_append_right _ List.mem_cons_self
      have hpre : pre.length < 12 := by
        have := congrArg List.length e
        rw [intR_len, List.length_append, List.length_cons] at this
        omega
      have ht : tOf (p2 oEq (p2 oMod (pN oInt1 [(pB 1)]) (pC (.int 2))) (pC (.int 1))) [.im (.int n), .im (.int c'), .ml (room.map .int), .im (.int x)] = .ok (decide (c' % 2 = 1)) := by simp only [pV0, pB0, pB0m, pVs, pBs, k_bind, k_of, k_opS, k_pC, k_p1, k_p2, k_pN, k_fN, k_args0, k_args, k_pOfF, k_sAsg, k_sAsgF, k_sRet, k_sRetF, k_sNx, k_tOf, k_bl, k_tNot, k_iRg, k_iSq, k_lst, k_tup, k_tux, k_pCall, k_fCall, k_valv, k_valf, k_newf, k_add, k_sub, k_lt, k_le, k_gt, k_ge, oEq_int, oNe_int, k_int1, k_abs, k_lens, k_lenl, k_lent, k_lenx, k_set0, k_sets, k_nil]; rw [oMod_pos (by decide)]; simp only [pV0, pB0, pB0m, pVs, pBs, k_bind, k_of, k_opS, k_pC, k_p1, k_p2, k_pN, k_fN, k_args0, k_args, k_pOfF, k_sAsg, k_sAsgF, k_sRet, k_sRetF, k_sNx, k_tOf, k_bl, k_tNot, k_iRg, k_iSq, k_lst, k_tup, k_tux, k_pCall, k_fCall, k_valv, k_valf, k_newf, k_add, k_sub, k_lt, k_le, k_gt, k_ge, oEq_int, oNe_int, k_int1, k_abs, k_lens, k_lenl, k_lent, k_lenx, k_set0, k_sets, k_nil]
      have fin : ∀ rm : List Int, sAsg (gN 1) (p2 oDiv (pB 1) (pC (.int 2))) [.im (.int n), .im (.int c'), .ml (rm.map .int), .im (.int x)] = .nx [.im (.int n), .im (.int (c' / 2)), .ml (rm.map .int), .im (.int x)] := fun rm => by simp only [pV0, pB0, pB0m, pVs, pBs, k_bind, k_of, k_opS, k_pC, k_p1, k_p2, k_pN, k_fN, k_args0, k_args, k_pOfF, k_sAsg, k_sAsgF, k_sRet, k_sRetF, k_sNx, k_tOf, k_bl, k_tNot, k_iRg, k_iSq, k_lst, k_tup, k_tux, k_pCall, k_fCall, k_valv, k_valf, k_newf, k_add, k_sub, k_lt, k_le, k_gt, k_ge, oEq_int, oNe_int, k_int1, k_abs, k_lens, k_lenl, k_lent, k_lenx, k_set0, k_sets, k_nil]; rw [oDiv_pos (by decide) (by decide)]; simp only [pV0, pB0, pB0m, pVs, pBs, k_bind, k_of, k_opS, k_pC, k_p1, k_p2, k_pN, k_fN, k_args0, k_args, k_pOfF, k_sAsg, k_sAsgF, k_sRet, k_sRetF, k_sNx, k_tOf, k_bl, k_tNot, k_iRg, k_iSq, k_lst, k_tup, k_tux, k_pCall, k_fCall, k_valv, k_valf, k_newf, k_add, k_sub, k_lt, k_le, k_gt, k_ge, oEq_int, oNe_int, k_int1, k_abs, k_lens, k_lenl, k_lent, k_lenx, k_set0, k_sets, k_nil]
      by_cases q : c' % 2 = 1
      · refine ⟨[.im (.int n), .im (.int c'), .ml (room.map .int), .im (.int x)], [.im (.int n), .im (.int (c' / 2)), .ml ((room ++ [x]).map .int), .im (.int x)], rfl, ?_, c' / 2, room ++ [x], _, rfl, Int.ediv_nonneg hc' (by decide), ?_, by rw [List.length_append, List.length_append]; exact Nat.succ_le_succ hlen⟩
        · rw [sSeq_nx (ρ' := [.im (.int n), .im (.int c'), .ml ((room ++ [x]).map .int), .im (.int x)]) (by
            rw [sIf_t (by rw [ht, decide_eq_true q]), sApp_eq (xs := room.map .int) (d := .int x) rfl (by (simp only [pV0, pB0, pB0m, pVs, pBs, k_bind, k_of, k_opS, k_pC, k_p1, k_p2, k_pN, k_fN, k_args0, k_args, k_pOfF, k_sAsg, k_sAsgF, k_sRet, k_sRetF, k_sNx, k_tOf, k_bl, k_tNot, k_iRg, k_iSq, k_lst, k_tup, k_tux, k_pCall, k_fCall, k_valv, k_valf, k_newf, k_add, k_sub, k_lt, k_le, k_gt, k_ge, oEq_int, oNe_int, k_int1, k_abs, k_lens, k_lenl, k_lent, k_lenx, k_set0, k_sets, k_nil]; try rfl)) (by rw [List.length_map]; omega), List.map_append]; rfl), fin]
        · intro y hy
          rcases List.mem_append.mp hy with hy | hy
          · exact hm y hy
          · rw [List.mem_singleton.mp hy]; exact hx
      · refine ⟨[.im (.int n), .im (.int c'), .ml (room.map .int), .im (.int x)], [.im (.int n), .im (.int (c' / 2)), .ml (room.map .int), .im (.int x)], rfl, ?_, c' / 2, room, _, rfl, Int.ediv_nonneg hc' (by decide), hm, by rw [List.length_append]; omega⟩
        rw [sSeq_nx (ρ' := [.im (.int n), .im (.int c'), .ml (room.map .int), .im (.int x)]) (by rw [sIf_f (by rw [ht, decide_eq_false q])]; rfl), fin])
  rw [intR_len] at hlen
  rw [sSeq_nx h1']
  have ht : tOf (p2 oEq (pN oLen [(pB 2)]) (pC (.int 0))) [.im (.int n), .im (.int c'), .ml (room.map .int), a] = .ok (decide ((room.length : Int) = 0)) := by simp only [pV0, pB0, pB0m, pVs, pBs, k_bind, k_of, k_opS, k_pC, k_p1, k_p2, k_pN, k_fN, k_args0, k_args, k_pOfF, k_sAsg, k_sAsgF, k_sRet, k_sRetF, k_sNx, k_tOf, k_bl, k_tNot, k_iRg, k_iSq, k_lst, k_tup, k_tux, k_pCall, k_fCall, k_valv, k_valf, k_newf, k_add, k_sub, k_lt, k_le, k_gt, k_ge, oEq_int, oNe_int, k_int1, k_abs, k_lens, k_lenl, k_lent, k_lenx, k_set0, k_sets, k_nil]; rw [List.length_map]
  cases hr : room with
  | nil =>
    subst hr
    refine ⟨[(n : Int) - 1], ⟨by simp, fun x hx => ?_, by show 1 ≤ 12; omega⟩, ?_⟩
    · rw [List.mem_singleton.mp hx]; exact mem_intR.mpr (by omega)
    · rw [sSeq_ret (r := .val (tI [(n : Int) - 1]))]
      · rfl
      · rw [sIf_t (by rw [ht]; rfl), k_sRet, k_nTup (ds := [.int ((n : Int) - 1)]) _ _ (args1 (by (simp only [pV0, pB0, pB0m, pVs, pBs, k_bind, k_of, k_opS, k_pC, k_p1, k_p2, k_pN, k_fN, k_args0, k_args, k_pOfF, k_sAsg, k_sAsgF, k_sRet, k_sRetF, k_sNx, k_tOf, k_bl, k_tNot, k_iRg, k_iSq, k_lst, k_tup, k_tux, k_pCall, k_fCall, k_valv, k_valf, k_newf, k_add, k_sub, k_lt, k_le, k_gt, k_ge, oEq_int, oNe_int, k_int1, k_abs, k_lens, k_lenl, k_lent, k_lenx, k_set0, k_sets, k_nil]; try rfl))) (by show 1 ≤ line; omega)]
        simp only [pV0, pB0, pB0m, pVs, pBs, k_bind, k_of, k_opS, k_pC, k_p1, k_p2, k_pN, k_fN, k_args0, k_args, k_pOfF, k_sAsg, k_sAsgF, k_sRet, k_sRetF, k_sNx, k_tOf, k_bl, k_tNot, k_iRg, k_iSq, k_lst, k_tup, k_tux, k_pCall, k_fCall, k_valv, k_valf, k_newf, k_add, k_sub, k_lt, k_le, k_gt, k_ge, oEq_int, oNe_int, k_int1, k_abs, k_lens, k_lenl, k_lent, k_lenx, k_set0, k_sets, k_nil]
        rfl
  | cons x r =>
    refine ⟨room, ⟨by rw [hr]; simp, hm, by omega⟩, ?_⟩
    rw [← hr]
    rw [sSeq_nx (ρ' := [.im (.int n), .im (.int c'), .ml (room.map .int), a]) (by
      rw [sIf_f (by rw [ht, decide_eq_false (by rw [hr]; rw [List.length_cons]; omega)])]; rfl)]
    rw [k_sRet, pN1_ok (x := lI room) (z := tI room) (by (simp only [pV0, pB0, pB0m, pVs, pBs, k_bind, k_of, k_opS, k_pC, k_p1, k_p2, k_pN, k_fN, k_args0, k_args, k_pOfF, k_sAsg, k_sAsgF, k_sRet, k_sRetF, k_sNx, k_tOf, k_bl, k_tNot, k_iRg, k_iSq, k_lst, k_tup, k_tux, k_pCall, k_fCall, k_valv, k_valf, k_newf, k_add, k_sub, k_lt, k_le, k_gt, k_ge, oEq_int, oNe_int, k_int1, k_abs, k_lens, k_lenl, k_lent, k_lenx, k_set0, k_sets, k_nil]; try rfl)) rfl]
    simp only [pV0, pB0, pB0m, pVs, pBs, k_bind, k_of, k_opS, k_pC, k_p1, k_p2, k_pN, k_fN, k_args0, k_args, k_pOfF, k_sAsg, k_sAsgF, k_sRet, k_sRetF, k_sNx, k_tOf, k_bl, k_tNot, k_iRg, k_iSq, k_lst, k_tup, k_tux, k_pCall, k_fCall, k_valv, k_valf, k_newf, k_add, k_sub, k_lt, k_le, k_gt, k_ge, oEq_int, oNe_int, k_int1, k_abs, k_lens, k_lenl, k_lent, k_lenx, k_set0, k_sets, k_nil]
    rfl
end K40
end
section
namespace K40
open PySem Pu
theorem size_step {i j c : Int} (hc : 0 < c) (hi : 0 ≤ i) (hic : i < c) (hj : 0 ≤ j) : Builtin.Range.rangeSize i j c = ((j - i + c - 1) / c).toNat ∧ ∀ t : Nat, t < ((j - i + c - 1) / c).toNat → 0 ≤ i + (t : Int) * c ∧ i + (t : Int) * c < j := by
  have e : Builtin.Range.rangeSize i j c = if i < j then (j - i - 1) / c + 1 else 0 := by
    unfold Builtin.Range.rangeSize
    rw [if_pos hc]
  have e2 : (j - i + c - 1) / c = (j - i - 1) / c + 1 := by
    rw [show j - i + c - 1 = (j - i - 1) + c * 1 by omega, Int.add_mul_ediv_left _ _ (by omega)]
  have q : 0 ≤ i + 0 * c := by omega
  by_cases h : i < j
  · have n0 : 0 ≤ (j - i - 1) / c := Int.ediv_nonneg (by omega) (by omega)
    refine ⟨by rw [e, if_pos h, e2]; omega, fun t ht => ?_⟩
    rw [e2] at ht
    have t1 : (t : Int) ≤ (j - i - 1) / c := by omega
    have t2 : (t : Int) * c ≤ (j - i - 1) / c * c := Int.mul_le_mul_of_nonneg_right t1 (by omega)
    have t3 : (j - i - 1) / c * c ≤ j - i - 1 := Int.ediv_mul_le _ (by omega)
    have t4 : 0 ≤ (t : Int) * c := Int.mul_nonneg (by omega) (by omega)
    omega
  · have d1 : (j - i - 1) / c ≤ -1 := by
      have : (j - i - 1) / c < 0 := Int.ediv_neg_of_neg_of_pos (by omega) hc
      omega
    refine ⟨by rw [e, if_neg h, e2]; omega, fun t ht => ?_⟩
    rw [e2] at ht
    omega
theorem range3 {i j c : Int} (hc : 0 < c) (hc2 : c < 100000) (hi : 0 ≤ i) (hic : i < c) (hj : 0 ≤ j) (hj2 : j < 100000) : ∃ m : Nat, oRange3 [.int i, .int j, .int c] = some ((List.range m).map fun t : Nat => .int (i + (t : Int) * c)) ∧ ∀ t, t < m → 0 ≤ i + (t : Int) * c ∧ i + (t : Int) * c < j := by
  obtain ⟨e, k⟩ := size_step hc hi hic hj
  have hl := l16
  have hm : ((j - i + c - 1) / c).toNat ≤ 200000 := by
    have : (j - i + c - 1) / c ≤ (j - i + c - 1) := by
      by_cases h : 0 ≤ j - i + c - 1
      · exact Int.ediv_le_self _ h
      · have : (j - i + c - 1) / c < 0 := Int.ediv_neg_of_neg_of_pos (by omega) hc
        omega
    omega
  refine ⟨((j - i + c - 1) / c).toNat, ?_, k⟩
  have sm : Builtin.Range.small i j c = true := by
    unfold Builtin.Range.small
    rw [e]
    generalize ((j - i + c - 1) / c).toNat = m at hm
    simp only [Builtin.Range.rangeFitsLong, Bool.and_eq_true, Bool.or_eq_true, decide_eq_true_eq, beq_iff_eq]
    rw [if_pos hc]
    simp only [Bool.and_eq_true, decide_eq_true_eq]
    omega
  have e0 : oRange3 [.int i, .int j, .int c] = if 0 < c ∧ c < 1073741824 ∧ Builtin.Range.small i j c = true ∧ Builtin.Range.rangeSize i j c = ((j - i + c - 1) / c).toNat ∧ ((j - i + c - 1) / c).toNat ≤ line then some (rngC i c ((j - i + c - 1) / c).toNat) else none := of_eq_true (eq_self _)
  rw [e0, if_pos ⟨hc, by omega, sm, e, by omega⟩]
  rfl
theorem some_ok (C : Nat) {g : D} {os rooms : List (List Int)} {f : List Int → D} {v d : Nat} {ns : List Int} (G : Good os v d) (I : IsG g os f) (hR : ∀ r ∈ rooms, Room r (v + d)) (hr : rooms.length ≤ 20736) : F__law_some_rooms C [g, ranksD os v d, .lst (rooms.map tI), .scr ns] = .ret (.val (.bl true)) := by
  have hl := l16
  have := G.d1
  have := G.d4
  have := G.v1
  have := G.v8
  have h0 : ((List.range d).map (fullRow os v))[0]? = some (fullRow os v 0) := by rw [List.getElem?_map, List.getElem?_range (by omega)]; rfl
  rw [e__law_some_rooms]
  unfold g__law_some_rooms
  rw [sSeq_nx (ρ' := [.im g, .im (ranksD os v d), .im (.lst (rooms.map tI)), .im (.scr ns), .im (.int ((v + d : Nat) : Int)), .no, .no, .no]) (by
    rw [k_sAsg, pN1_ok (x := tab (fullRow os v 0)) (z := .int ((v + d : Nat) : Int)) (p2_ok (x := ranksD os v d) (y := .int ((0 : Nat) : Int)) (by (simp only [pV0, pB0, pB0m, pVs, pBs, k_bind, k_of, k_opS, k_pC, k_p1, k_p2, k_pN, k_fN, k_args0, k_args, k_pOfF, k_sAsg, k_sAsgF, k_sRet, k_sRetF, k_sNx, k_tOf, k_bl, k_tNot, k_iRg, k_iSq, k_lst, k_tup, k_tux, k_pCall, k_fCall, k_valv, k_valf, k_newf, k_add, k_sub, k_lt, k_le, k_gt, k_ge, oEq_int, oNe_int, k_int1, k_abs, k_lens, k_lenl, k_lent, k_lenx, k_set0, k_sets, k_nil]; try rfl)) rfl (ix_l (by rw [List.getElem?_map, h0]; rfl))) (by unfold tab lI; rw [k_lenl, List.length_map, List.length_map, intR_len, G.rlen (by omega)])]
    rfl)]
  have s0 : (0 : Int) < 1 + (rooms.length : Int) / 9 := by
    have : 0 ≤ (rooms.length : Int) / 9 := Int.ediv_nonneg (by omega) (by decide)
    omega
  have s1 : 1 + (rooms.length : Int) / 9 < 100000 := by
    have : (rooms.length : Int) / 9 ≤ rooms.length := Int.ediv_le_self _ (by omega)
    omega
  rw [sSeq_nx (ρ' := [.im g, .im (ranksD os v d), .im (.lst (rooms.map tI)), .im (.scr ns), .im (.int ((v + d : Nat) : Int)), .im (.int (1 + (rooms.length : Int) / 9)), .no, .no]) (by
    simp only [pV0, pB0, pB0m, pVs, pBs, k_bind, k_of, k_opS, k_pC, k_p1, k_p2, k_pN, k_fN, k_args0, k_args, k_pOfF, k_sAsg, k_sAsgF, k_sRet, k_sRetF, k_sNx, k_tOf, k_bl, k_tNot, k_iRg, k_iSq, k_lst, k_tup, k_tux, k_pCall, k_fCall, k_valv, k_valf, k_newf, k_add, k_sub, k_lt, k_le, k_gt, k_ge, oEq_int, oNe_int, k_int1, k_abs, k_lens, k_lenl, k_lent, k_lenx, k_set0, k_sets, k_nil]; rw [List.length_map, oDiv_pos (by decide) (by decide)]; simp only [pV0, pB0, pB0m, pVs, pBs, k_bind, k_of, k_opS, k_pC, k_p1, k_p2, k_pN, k_fN, k_args0, k_args, k_pOfF, k_sAsg, k_sAsgF, k_sRet, k_sRetF, k_sNx, k_tOf, k_bl, k_tNot, k_iRg, k_iSq, k_lst, k_tup, k_tux, k_pCall, k_fCall, k_valv, k_valf, k_newf, k_add, k_sub, k_lt, k_le, k_gt, k_ge, oEq_int, oNe_int, k_int1, k_abs, k_lens, k_lenl, k_lent, k_lenx, k_set0, k_sets, k_nil])]
  generalize 1 + (rooms.length : Int) / 9 = c at s0 s1
  obtain ⟨x, hx, ex⟩ := cell_ok C ns 8 (by decide)
  obtain ⟨m, em, km⟩ := range3 (i := x % c) (j := rooms.length) s0 s1 (Int.emod_nonneg _ (by omega)) (Int.emod_lt_of_pos _ s0) (by omega) (by omega)
  have hcell : (pCall (F__law_cell C) [(pV 3), (pC (.int 8))]) [.im g, .im (ranksD os v d), .im (.lst (rooms.map tI)), .im (.scr ns), .im (.int ((v + d : Nat) : Int)), .im (.int c), .no, .no] = .ok (.int x) := call_ok (args2 (x := .scr ns) (y := .int 8) (by (simp only [pV0, pB0, pB0m, pVs, pBs, k_bind, k_of, k_opS, k_pC, k_p1, k_p2, k_pN, k_fN, k_args0, k_args, k_pOfF, k_sAsg, k_sAsgF, k_sRet, k_sRetF, k_sNx, k_tOf, k_bl, k_tNot, k_iRg, k_iSq, k_lst, k_tup, k_tux, k_pCall, k_fCall, k_valv, k_valf, k_newf, k_add, k_sub, k_lt, k_le, k_gt, k_ge, oEq_int, oNe_int, k_int1, k_abs, k_lens, k_lenl, k_lent, k_lenx, k_set0, k_sets, k_nil]; try rfl)) rfl) ex
  obtain ⟨ρ', h1, a, rfl⟩ := sFor_inv (g := gN 6) (it := fN oRange3 [(p2 oMod (pN oInt1 [(pCall (F__law_cell C) [(pV 3), (pC (.int 8))])]) (pB 5)), (pN oLen [(pB 2)]), (pV 5)]) (b := sIf (tNot (tOf (pCall (F__law_one_room C) [(pV 0), (pV 1), (p2 oIx (pB 2) (pB 6))]))) (sRet (pC (.bl false))) sNx)
    (ρ := [.im g, .im (ranksD os v d), .im (.lst (rooms.map tI)), .im (.scr ns), .im (.int ((v + d : Nat) : Int)), .im (.int c), .no, .no]) (fun t : Nat => .int (x % c + (t : Int) * c))
    (fun pre ρ => ∃ a, ρ = [.im g, .im (ranksD os v d), .im (.lst (rooms.map tI)), .im (.scr ns), .im (.int ((v + d : Nat) : Int)), .im (.int c), a, .no]) (List.range m)
    (by
      rw [k_fN, args3 (x := .int (x % c)) (y := .int rooms.length) (z := .int c) (p2_ok (x := .int x) (y := .int c) (pN1_ok hcell rfl) (by (simp only [pV0, pB0, pB0m, pVs, pBs, k_bind, k_of, k_opS, k_pC, k_p1, k_p2, k_pN, k_fN, k_args0, k_args, k_pOfF, k_sAsg, k_sAsgF, k_sRet, k_sRetF, k_sNx, k_tOf, k_bl, k_tNot, k_iRg, k_iSq, k_lst, k_tup, k_tux, k_pCall, k_fCall, k_valv, k_valf, k_newf, k_add, k_sub, k_lt, k_le, k_gt, k_ge, oEq_int, oNe_int, k_int1, k_abs, k_lens, k_lenl, k_lent, k_lenx, k_set0, k_sets, k_nil]; try rfl)) (oMod_pos s0)) (by simp only [pV0, pB0, pB0m, pVs, pBs, k_bind, k_of, k_opS, k_pC, k_p1, k_p2, k_pN, k_fN, k_args0, k_args, k_pOfF, k_sAsg, k_sAsgF, k_sRet, k_sRetF, k_sNx, k_tOf, k_bl, k_tNot, k_iRg, k_iSq, k_lst, k_tup, k_tux, k_pCall, k_fCall, k_valv, k_valf, k_newf, k_add, k_sub, k_lt, k_le, k_gt, k_ge, oEq_int, oNe_int, k_int1, k_abs, k_lens, k_lenl, k_lent, k_lenx, k_set0, k_sets, k_nil]; rw [List.length_map]) (by (simp only [pV0, pB0, pB0m, pVs, pBs, k_bind, k_of, k_opS, k_pC, k_p1, k_p2, k_pN, k_fN, k_args0, k_args, k_pOfF, k_sAsg, k_sAsgF, k_sRet, k_sRetF, k_sNx, k_tOf, k_bl, k_tNot, k_iRg, k_iSq, k_lst, k_tup, k_tux, k_pCall, k_fCall, k_valv, k_valf, k_newf, k_add, k_sub, k_lt, k_le, k_gt, k_ge, oEq_int, oNe_int, k_int1, k_abs, k_lens, k_lenl, k_lent, k_lenx, k_set0, k_sets, k_nil]; try rfl)), k_bind, em, k_of]) ⟨_, rfl⟩
    (by
      rintro pre t post ρ e ⟨a, rfl⟩
      have ht : t < m := List.mem_range.mp (by rw [e]; exact List.mem_append_right _ List.mem_cons_self)
      obtain ⟨k0, k1⟩ := km t ht
      have hk : (x % c + (t : Int) * c).toNat < rooms.length := by omega
      have ek : x % c + (t : Int) * c = ((x % c + (t : Int) * c).toNat : Int) := by omega
      refine ⟨[.im g, .im (ranksD os v d), .im (.lst (rooms.map tI)), .im (.scr ns), .im (.int ((v + d : Nat) : Int)), .im (.int c), .im (.int (x % c + (t : Int) * c)), .no], [.im g, .im (ranksD os v d), .im (.lst (rooms.map tI)), .im (.scr ns), .im (.int ((v + d : Nat) : Int)), .im (.int c), .im (.int (x % c + (t : Int) * c)), .no], rfl, ?_, _, rfl⟩
      rw [sIf_f (tNot_t (tOf_ok (call_ok (args3 (x := g) (y := ranksD os v d) (z := tI rooms[(x % c + (t : Int) * c).toNat]) (by (simp only [pV0, pB0, pB0m, pVs, pBs, k_bind, k_of, k_opS, k_pC, k_p1, k_p2, k_pN, k_fN, k_args0, k_args, k_pOfF, k_sAsg, k_sAsgF, k_sRet, k_sRetF, k_sNx, k_tOf, k_bl, k_tNot, k_iRg, k_iSq, k_lst, k_tup, k_tux, k_pCall, k_fCall, k_valv, k_valf, k_newf, k_add, k_sub, k_lt, k_le, k_gt, k_ge, oEq_int, oNe_int, k_int1, k_abs, k_lens, k_lenl, k_lent, k_lenx, k_set0, k_sets, k_nil]; try rfl)) (by (simp only [pV0, pB0, pB0m, pVs, pBs, k_bind, k_of, k_opS, k_pC, k_p1, k_p2, k_pN, k_fN, k_args0, k_args, k_pOfF, k_sAsg, k_sAsgF, k_sRet, k_sRetF, k_sNx, k_tOf, k_bl, k_tNot, k_iRg, k_iSq, k_lst, k_tup, k_tux, k_pCall, k_fCall, k_valv, k_valf, k_newf, k_add, k_sub, k_lt, k_le, k_gt, k_ge, oEq_int, oNe_int, k_int1, k_abs, k_lens, k_lenl, k_lent, k_lenx, k_set0, k_sets, k_nil]; try rfl)) (p2_ok (x := .lst (rooms.map tI)) (y := .int ((x % c + (t : Int) * c).toNat : Int)) (by (simp only [pV0, pB0, pB0m, pVs, pBs, k_bind, k_of, k_opS, k_pC, k_p1, k_p2, k_pN, k_fN, k_args0, k_args, k_pOfF, k_sAsg, k_sAsgF, k_sRet, k_sRetF, k_sNx, k_tOf, k_bl, k_tNot, k_iRg, k_iSq, k_lst, k_tup, k_tux, k_pCall, k_fCall, k_valv, k_valf, k_newf, k_add, k_sub, k_lt, k_le, k_gt, k_ge, oEq_int, oNe_int, k_int1, k_abs, k_lens, k_lenl, k_lent, k_lenx, k_set0, k_sets, k_nil]; try rfl)) (by rw [← ek]; rfl) (ix_l (by rw [List.getElem?_map, List.getElem?_eq_getElem hk]; rfl)))) (one_ok C G I (hR _ (List.getElem_mem hk))))))]
      rfl)
  rw [sSeq_nx h1]
  obtain ⟨ρ', h2, b, rfl⟩ := sFor_inv (g := gN 7) (it := iRg [(pC (.int 3))]) (b := sIf (tNot (tOf (pCall (F__law_one_room C) [(pV 0), (pV 1), (pCall (F__law_by_bits C) [(pV 4), (pCall (F__law_cell C) [(pV 3), (p2 oAdd (pC (.int 9)) (pB 7))])])]))) (sRet (pC (.bl false))) sNx)
    (ρ := [.im g, .im (ranksD os v d), .im (.lst (rooms.map tI)), .im (.scr ns), .im (.int ((v + d : Nat) : Int)), .im (.int c), a, .no]) D.int
    (fun pre ρ => ∃ b, ρ = [.im g, .im (ranksD os v d), .im (.lst (rooms.map tI)), .im (.scr ns), .im (.int ((v + d : Nat) : Int)), .im (.int c), a, b]) (intR 3)
    (by rw [k_iRg, fN1_ok (x := .int ((3 : Nat) : Int)) rfl (oRange1 (by omega))]) ⟨_, rfl⟩
    (by
      rintro pre t post ρ e ⟨b, rfl⟩
      have ht := mem_intR.mp (show t ∈ intR 3 by rw [e]; exact List.mem_append_right _ List.mem_cons_self)
      obtain ⟨y, hy, ey⟩ := cell_ok C ns (9 + t) (by omega)
      obtain ⟨room, R, er⟩ := bits_ok C (n := v + d) hy (by omega) (by omega)
      refine ⟨[.im g, .im (ranksD os v d), .im (.lst (rooms.map tI)), .im (.scr ns), .im (.int ((v + d : Nat) : Int)), .im (.int c), a, .im (.int t)], [.im g, .im (ranksD os v d), .im (.lst (rooms.map tI)), .im (.scr ns), .im (.int ((v + d : Nat) : Int)), .im (.int c), a, .im (.int t)], rfl, ?_, _, rfl⟩
      rw [sIf_f (tNot_t (tOf_ok (call_ok (args3 (x := g) (y := ranksD os v d) (z := tI room) (by (simp only [pV0, pB0, pB0m, pVs, pBs, k_bind, k_of, k_opS, k_pC, k_p1, k_p2, k_pN, k_fN, k_args0, k_args, k_pOfF, k_sAsg, k_sAsgF, k_sRet, k_sRetF, k_sNx, k_tOf, k_bl, k_tNot, k_iRg, k_iSq, k_lst, k_tup, k_tux, k_pCall, k_fCall, k_valv, k_valf, k_newf, k_add, k_sub, k_lt, k_le, k_gt, k_ge, oEq_int, oNe_int, k_int1, k_abs, k_lens, k_lenl, k_lent, k_lenx, k_set0, k_sets, k_nil]; try rfl)) (by (simp only [pV0, pB0, pB0m, pVs, pBs, k_bind, k_of, k_opS, k_pC, k_p1, k_p2, k_pN, k_fN, k_args0, k_args, k_pOfF, k_sAsg, k_sAsgF, k_sRet, k_sRetF, k_sNx, k_tOf, k_bl, k_tNot, k_iRg, k_iSq, k_lst, k_tup, k_tux, k_pCall, k_fCall, k_valv, k_valf, k_newf, k_add, k_sub, k_lt, k_le, k_gt, k_ge, oEq_int, oNe_int, k_int1, k_abs, k_lens, k_lenl, k_lent, k_lenx, k_set0, k_sets, k_nil]; try rfl)) (call_ok (args2 (x := .int ((v + d : Nat) : Int)) (y := .int y) (by (simp only [pV0, pB0, pB0m, pVs, pBs, k_bind, k_of, k_opS, k_pC, k_p1, k_p2, k_pN, k_fN, k_args0, k_args, k_pOfF, k_sAsg, k_sAsgF, k_sRet, k_sRetF, k_sNx, k_tOf, k_bl, k_tNot, k_iRg, k_iSq, k_lst, k_tup, k_tux, k_pCall, k_fCall, k_valv, k_valf, k_newf, k_add, k_sub, k_lt, k_le, k_gt, k_ge, oEq_int, oNe_int, k_int1, k_abs, k_lens, k_lenl, k_lent, k_lenx, k_set0, k_sets, k_nil]; try rfl)) (call_ok (args2 (x := .scr ns) (y := .int (9 + t)) (by (simp only [pV0, pB0, pB0m, pVs, pBs, k_bind, k_of, k_opS, k_pC, k_p1, k_p2, k_pN, k_fN, k_args0, k_args, k_pOfF, k_sAsg, k_sAsgF, k_sRet, k_sRetF, k_sNx, k_tOf, k_bl, k_tNot, k_iRg, k_iSq, k_lst, k_tup, k_tux, k_pCall, k_fCall, k_valv, k_valf, k_newf, k_add, k_sub, k_lt, k_le, k_gt, k_ge, oEq_int, oNe_int, k_int1, k_abs, k_lens, k_lenl, k_lent, k_lenx, k_set0, k_sets, k_nil]; try rfl)) (by (simp only [pV0, pB0, pB0m, pVs, pBs, k_bind, k_of, k_opS, k_pC, k_p1, k_p2, k_pN, k_fN, k_args0, k_args, k_pOfF, k_sAsg, k_sAsgF, k_sRet, k_sRetF, k_sNx, k_tOf, k_bl, k_tNot, k_iRg, k_iSq, k_lst, k_tup, k_tux, k_pCall, k_fCall, k_valv, k_valf, k_newf, k_add, k_sub, k_lt, k_le, k_gt, k_ge, oEq_int, oNe_int, k_int1, k_abs, k_lens, k_lenl, k_lent, k_lenx, k_set0, k_sets, k_nil]; try rfl))) ey)) er)) (one_ok C G I R))))]
      rfl)
  rw [sSeq_nx h2]
  rfl
end K40
end
section
namespace K40
open PySem Pu
theorem subs_mem : ∀ (s : Nat) (items r : List Int), s ≤ items.length → r ∈ subs s items → (∀ x ∈ r, x ∈ items) ∧ (items.Pairwise (· < ·) → r.Pairwise (· < ·))
  | 0, items, r, _, h => by
    have : r = [] := List.mem_singleton.mp h
    subst this
    exact ⟨fun x hx => absurd hx (by simp), fun _ => List.Pairwise.nil⟩
  | s + 1, items, r, hs, h => by
    obtain ⟨k, hk, h2⟩ := List.mem_flatMap.mp (show r ∈ (List.range (items.length - s)).flatMap _ from h)
    obtain ⟨q, h3, rfl⟩ := List.mem_map.mp h2
    have hk := List.mem_range.mp hk
    have hk2 : k < items.length := by omega
    have eg : items.getD k 0 = items[k] := by rw [List.getD_eq_getElem?_getD, List.getElem?_eq_getElem hk2]; rfl
    obtain ⟨a, b⟩ := subs_mem s _ q (by rw [List.length_drop]; omega) h3
    have hd : items.drop k = items[k] :: items.drop (k + 1) := List.drop_eq_getElem_cons hk2
    refine ⟨fun x hx => ?_, fun hp => ?_⟩
    · rcases List.mem_cons.mp hx with e | hx
      · rw [e, eg]; exact List.getElem_mem hk2
      · exact List.mem_of_mem_drop (a x hx)
    · have hp2 : (items.drop k).Pairwise (· < ·) := hp.sublist (List.drop_sublist _ _)
      rw [hd] at hp2
      obtain ⟨p1, p2⟩ := List.pairwise_cons.mp hp2
      refine List.pairwise_cons.mpr ⟨fun x hx => ?_, b p2⟩
      rw [eg]
      exact p1 x (a x hx)
theorem subs_nodup : ∀ (s : Nat) (items : List Int), s ≤ items.length → items.Nodup → (subs s items).Nodup
  | 0, _, _, _ => List.pairwise_singleton _ _
  | s + 1, items, hs, h => by
    show ((List.range (items.length - s)).flatMap fun k => (subs s (items.drop (k + 1))).map fun r => items.getD k 0 :: r).Nodup
    refine List.pairwise_flatMap.mpr ⟨fun k hk => ?_, ?_⟩
    · have hk := List.mem_range.mp hk
      exact List.Pairwise.map _ (fun a b n e => n (List.cons.inj e).2) (subs_nodup s _ (by rw [List.length_drop]; omega) (h.sublist (List.drop_sublist _ _)))
    · refine (List.nodup_range (n := items.length - s)).imp_of_mem fun {a b} ha hb n => ?_
      intro r hr1 r' hr2 er
      obtain ⟨q, _, rfl⟩ := List.mem_map.mp hr1
      obtain ⟨q', _, rfl⟩ := List.mem_map.mp hr2
      have e := er.symm
      have ha := List.mem_range.mp ha
      have hb := List.mem_range.mp hb
      have ha2 : a < items.length := by omega
      have hb2 : b < items.length := by omega
      have e1 := (List.cons.inj e).1
      rw [List.getD_eq_getElem?_getD, List.getD_eq_getElem?_getD, List.getElem?_eq_getElem ha2, List.getElem?_eq_getElem hb2] at e1
      have e2 : items[b] = items[a] := e1
      rcases Nat.lt_or_gt_of_ne n with c | c
      · exact List.pairwise_iff_getElem.mp h a b ha2 hb2 c e2.symm
      · exact List.pairwise_iff_getElem.mp h b a hb2 ha2 c e2
theorem Good.room {os : List (List Int)} {v d : Nat} (G : Good os v d) {r : List Int} (h : r ∈ subs d (intR (v + d))) : Room r (v + d) ∧ r.length = d ∧ r.Pairwise (· < ·) := by
  have := G.d1
  have := G.d4
  have hl := subs_rlen d _ r h
  obtain ⟨a, b⟩ := subs_mem d _ r (by rw [intR_len]; omega) h
  refine ⟨⟨fun e => ?_, a, by omega⟩, hl, b (intR_lt _)⟩
  rw [e] at hl
  have : 0 = d := hl
  omega
def dueP (os : List (List Int)) (v d : Nat) (r : List Int) : Bool := decide (((beat ((List.range d).map (fullRow os v)) (v + d) r).length : Int) = 0)
def due (os : List (List Int)) (v d : Nat) : List (List Int) := (subs d (intR (v + d))).filter (dueP os v d)
theorem tupRg1 {a : PE'} {ρ : Rho} {n : Nat} (h : a ρ = .ok (.int (n : Int))) (hn : n ≤ line) : pTupRg [a] ρ = .ok (tI (intR n)) := by
  have e : pTupRg [a] ρ = (fN oRange [a] ρ).bind fun xs => .ok (.tup xs) := of_eq_true (eq_self _)
  rw [e, fN1_ok h (oRange1 hn), k_bind]; rfl
theorem tupRg2 {a b : PE'} {ρ : Rho} {n m : Nat} (h : a ρ = .ok (.int (n : Int))) (h2 : b ρ = .ok (.int (m : Int))) (hn : n ≤ line) (hm : m ≤ line) : pTupRg [a, b] ρ = .ok (tI (intF n (m - n))) := by
  have e : pTupRg [a, b] ρ = (fN oRange [a, b] ρ).bind fun xs => .ok (.tup xs) := of_eq_true (eq_self _)
  rw [e, k_fN, args2 h h2, k_bind, oRange2 hn hm, k_of, k_bind]; rfl
theorem ub_ok (C : Nat) {g : D} {os : List (List Int)} {f : List Int → D} {v d : Nat} (G : Good os v d) (I : IsG g os f) : F_unbeaten_rooms C [g] = .ret (.fresh ((due os v d).map tI)) := by
  have hl := l16
  have := G.d1
  have := G.d4
  have := G.v8
  have S := G.rows
  rw [e_unbeaten_rooms]
  unfold g_unbeaten_rooms
  rw [sSeq_nx (k_asgT (call_ok (args1 (by (simp only [pV0, pB0, pB0m, pVs, pBs, k_bind, k_of, k_opS, k_pC, k_p1, k_p2, k_pN, k_fN, k_args0, k_args, k_pOfF, k_sAsg, k_sAsgF, k_sRet, k_sRetF, k_sNx, k_tOf, k_bl, k_tNot, k_iRg, k_iSq, k_lst, k_tup, k_tux, k_pCall, k_fCall, k_valv, k_valf, k_newf, k_add, k_sub, k_lt, k_le, k_gt, k_ge, oEq_int, oNe_int, k_int1, k_abs, k_lens, k_lenl, k_lent, k_lenx, k_set0, k_sets, k_nil]; try rfl))) (check_ok C G I)))]
  simp only [k_set0, k_sets]
  rw [sSeq_nx (ρ' := [.im g, .im (.int d), .im (.int v), .im (.lst (((List.range d).map (fullRow os v)).map xI)), .no]) (by
    rw [k_sAsg, call_ok (args1 (x := g) (by (simp only [pV0, pB0, pB0m, pVs, pBs, k_bind, k_of, k_opS, k_pC, k_p1, k_p2, k_pN, k_fN, k_args0, k_args, k_pOfF, k_sAsg, k_sAsgF, k_sRet, k_sRetF, k_sNx, k_tOf, k_bl, k_tNot, k_iRg, k_iSq, k_lst, k_tup, k_tux, k_pCall, k_fCall, k_valv, k_valf, k_newf, k_add, k_sub, k_lt, k_le, k_gt, k_ge, oEq_int, oNe_int, k_int1, k_abs, k_lens, k_lenl, k_lent, k_lenx, k_set0, k_sets, k_nil]; try rfl))) (fullo_ok C G I), List.map_map]; rfl)]
  have hs : pCall (F_subsets C 6) [(pTupRg [(p2 oAdd (pB 2) (pB 1))]), (pV 1)] [.im g, .im (.int d), .im (.int v), .im (.lst (((List.range d).map (fullRow os v)).map xI)), .no] = .ok (.lst ((subs d (intR (v + d))).map tI)) := by
    refine call_ok (r := .fresh ((subs d (intR (v + d))).map tI)) (args2 (tupRg1 (n := v + d) (by simp only [pV0, pB0, pB0m, pVs, pBs, k_bind, k_of, k_opS, k_pC, k_p1, k_p2, k_pN, k_fN, k_args0, k_args, k_pOfF, k_sAsg, k_sAsgF, k_sRet, k_sRetF, k_sNx, k_tOf, k_bl, k_tNot, k_iRg, k_iSq, k_lst, k_tup, k_tux, k_pCall, k_fCall, k_valv, k_valf, k_newf, k_add, k_sub, k_lt, k_le, k_gt, k_ge, oEq_int, oNe_int, k_int1, k_abs, k_lens, k_lenl, k_lent, k_lenx, k_set0, k_sets, k_nil]; rfl) (by omega)) (by (simp only [pV0, pB0, pB0m, pVs, pBs, k_bind, k_of, k_opS, k_pC, k_p1, k_p2, k_pN, k_fN, k_args0, k_args, k_pOfF, k_sAsg, k_sAsgF, k_sRet, k_sRetF, k_sNx, k_tOf, k_bl, k_tNot, k_iRg, k_iSq, k_lst, k_tup, k_tux, k_pCall, k_fCall, k_valv, k_valf, k_newf, k_add, k_sub, k_lt, k_le, k_gt, k_ge, oEq_int, oNe_int, k_int1, k_abs, k_lens, k_lenl, k_lent, k_lenx, k_set0, k_sets, k_nil]; try rfl))) ?_
    rw [same_rooms]
    exact rooms_ok C 6 d (intR (v + d)) (by omega) (by rw [intR_len]; omega) (by rw [intR_len]; omega) (by omega)
  have hc := fComp_ok (own := [4]) (g := gN 4) (it := iSq (pCall (F_subsets C 6) [(pTupRg [(p2 oAdd (pB 2) (pB 1))]), (pV 1)])) (t := tOf (p2 oEq (pN oLen [(pCall (F_above_in_all C) [(pV 3), (pV 4)])]) (pC (.int 0)))) (e := pV 4) (ρ := [.im g, .im (.int d), .im (.int v), .im (.lst (((List.range d).map (fullRow os v)).map xI)), .no]) tI (dueP os v d) tI (subs d (intR (v + d))) (by rw [k_iSq, hs]; simp only [pV0, pB0, pB0m, pVs, pBs, k_bind, k_of, k_opS, k_pC, k_p1, k_p2, k_pN, k_fN, k_args0, k_args, k_pOfF, k_sAsg, k_sAsgF, k_sRet, k_sRetF, k_sNx, k_tOf, k_bl, k_tNot, k_iRg, k_iSq, k_lst, k_tup, k_tux, k_pCall, k_fCall, k_valv, k_valf, k_newf, k_add, k_sub, k_lt, k_le, k_gt, k_ge, oEq_int, oNe_int, k_int1, k_abs, k_lens, k_lenl, k_lent, k_lenx, k_set0, k_sets, k_nil])
    (fun r hr => ⟨[.im g, .im (.int d), .im (.int v), .im (.lst (((List.range d).map (fullRow os v)).map xI)), .im (tI r)], by rw [wipe1]; rfl, tOf_ok (p2_ok (x := .int (beat ((List.range d).map (fullRow os v)) (v + d) r).length) (y := .int 0) (pN1_ok (call_ok (args2 (x := .lst (((List.range d).map (fullRow os v)).map xI)) (y := tI r) (by (simp only [pV0, pB0, pB0m, pVs, pBs, k_bind, k_of, k_opS, k_pC, k_p1, k_p2, k_pN, k_fN, k_args0, k_args, k_pOfF, k_sAsg, k_sAsgF, k_sRet, k_sRetF, k_sNx, k_tOf, k_bl, k_tNot, k_iRg, k_iSq, k_lst, k_tup, k_tux, k_pCall, k_fCall, k_valv, k_valf, k_newf, k_add, k_sub, k_lt, k_le, k_gt, k_ge, oEq_int, oNe_int, k_int1, k_abs, k_lens, k_lenl, k_lent, k_lenx, k_set0, k_sets, k_nil]; try rfl)) (by (simp only [pV0, pB0, pB0m, pVs, pBs, k_bind, k_of, k_opS, k_pC, k_p1, k_p2, k_pN, k_fN, k_args0, k_args, k_pOfF, k_sAsg, k_sAsgF, k_sRet, k_sRetF, k_sNx, k_tOf, k_bl, k_tNot, k_iRg, k_iSq, k_lst, k_tup, k_tux, k_pCall, k_fCall, k_valv, k_valf, k_newf, k_add, k_sub, k_lt, k_le, k_gt, k_ge, oEq_int, oNe_int, k_int1, k_abs, k_lens, k_lenl, k_lent, k_lenx, k_set0, k_sets, k_nil]; try rfl))) (all_ok C S (G.room hr).1)) (IsS.l _).len) rfl (oEq_int _ _)), fun _ => by (simp only [pV0, pB0, pB0m, pVs, pBs, k_bind, k_of, k_opS, k_pC, k_p1, k_p2, k_pN, k_fN, k_args0, k_args, k_pOfF, k_sAsg, k_sAsgF, k_sRet, k_sRetF, k_sNx, k_tOf, k_bl, k_tNot, k_iRg, k_iSq, k_lst, k_tup, k_tux, k_pCall, k_fCall, k_valv, k_valf, k_newf, k_add, k_sub, k_lt, k_le, k_gt, k_ge, oEq_int, oNe_int, k_int1, k_abs, k_lens, k_lenl, k_lent, k_lenx, k_set0, k_sets, k_nil]; try rfl)⟩)
  rw [k_sRetF, hc]
  simp only [pV0, pB0, pB0m, pVs, pBs, k_bind, k_of, k_opS, k_pC, k_p1, k_p2, k_pN, k_fN, k_args0, k_args, k_pOfF, k_sAsg, k_sAsgF, k_sRet, k_sRetF, k_sNx, k_tOf, k_bl, k_tNot, k_iRg, k_iSq, k_lst, k_tup, k_tux, k_pCall, k_fCall, k_valv, k_valf, k_newf, k_add, k_sub, k_lt, k_le, k_gt, k_ge, oEq_int, oNe_int, k_int1, k_abs, k_lens, k_lenl, k_lent, k_lenx, k_set0, k_sets, k_nil]
  rfl
theorem own_ok (C : Nat) {g : D} {os : List (List Int)} {f : List Int → D} {v d : Nat} (G : Good os v d) (I : IsG g os f) : F_own_places C [g] = .ret (.val (tI (intF v d))) := by
  have hl := l16
  have := G.d4
  have := G.v8
  rw [e_own_places]
  unfold g_own_places
  rw [sSeq_nx (k_asgT (call_ok (args1 (by (simp only [pV0, pB0, pB0m, pVs, pBs, k_bind, k_of, k_opS, k_pC, k_p1, k_p2, k_pN, k_fN, k_args0, k_args, k_pOfF, k_sAsg, k_sAsgF, k_sRet, k_sRetF, k_sNx, k_tOf, k_bl, k_tNot, k_iRg, k_iSq, k_lst, k_tup, k_tux, k_pCall, k_fCall, k_valv, k_valf, k_newf, k_add, k_sub, k_lt, k_le, k_gt, k_ge, oEq_int, oNe_int, k_int1, k_abs, k_lens, k_lenl, k_lent, k_lenx, k_set0, k_sets, k_nil]; try rfl))) (check_ok C G I)))]
  simp only [k_set0, k_sets]
  rw [k_sRet, tupRg2 (n := v) (m := v + d) (by (simp only [pV0, pB0, pB0m, pVs, pBs, k_bind, k_of, k_opS, k_pC, k_p1, k_p2, k_pN, k_fN, k_args0, k_args, k_pOfF, k_sAsg, k_sAsgF, k_sRet, k_sRetF, k_sNx, k_tOf, k_bl, k_tNot, k_iRg, k_iSq, k_lst, k_tup, k_tux, k_pCall, k_fCall, k_valv, k_valf, k_newf, k_add, k_sub, k_lt, k_le, k_gt, k_ge, oEq_int, oNe_int, k_int1, k_abs, k_lens, k_lenl, k_lent, k_lenx, k_set0, k_sets, k_nil]; try rfl)) (by simp only [pV0, pB0, pB0m, pVs, pBs, k_bind, k_of, k_opS, k_pC, k_p1, k_p2, k_pN, k_fN, k_args0, k_args, k_pOfF, k_sAsg, k_sAsgF, k_sRet, k_sRetF, k_sNx, k_tOf, k_bl, k_tNot, k_iRg, k_iSq, k_lst, k_tup, k_tux, k_pCall, k_fCall, k_valv, k_valf, k_newf, k_add, k_sub, k_lt, k_le, k_gt, k_ge, oEq_int, oNe_int, k_int1, k_abs, k_lens, k_lenl, k_lent, k_lenx, k_set0, k_sets, k_nil]; rfl) (by omega) (by omega), show v + d - v = d by omega]
  simp only [pV0, pB0, pB0m, pVs, pBs, k_bind, k_of, k_opS, k_pC, k_p1, k_p2, k_pN, k_fN, k_args0, k_args, k_pOfF, k_sAsg, k_sAsgF, k_sRet, k_sRetF, k_sNx, k_tOf, k_bl, k_tNot, k_iRg, k_iSq, k_lst, k_tup, k_tux, k_pCall, k_fCall, k_valv, k_valf, k_newf, k_add, k_sub, k_lt, k_le, k_gt, k_ge, oEq_int, oNe_int, k_int1, k_abs, k_lens, k_lenl, k_lent, k_lenx, k_set0, k_sets, k_nil]
  rfl
theorem own_beaten {os : List (List Int)} {v d : Nat} (G : Good os v d) : dueP os v d (intF v d) = false := by
  have := G.d1
  have := G.v1
  have h0 : (0 : Int) ∈ beat ((List.range d).map (fullRow os v)) (v + d) (intF v d) := by
    refine List.mem_filter.mpr ⟨mem_intR.mpr (by omega), ?_⟩
    unfold ab
    refine List.all_eq_true.mpr fun r hr => ?_
    obtain ⟨k, hk, rfl⟩ := List.mem_map.mp hr
    have hk := List.mem_range.mp hk
    rw [decide_eq_true_eq]
    have hin : ((v : Int) + k) ∈ intF v d := List.mem_map.mpr ⟨k, List.mem_range.mpr hk, rfl⟩
    have hrow : fullRow os v k = ((v : Int) + k) :: (os.getD k [] ++ others v os.length k) := rfl
    have hlow : low (fullRow os v k) (intF v d) = 0 := by
      unfold low fst
      rw [hrow, List.filter_cons_of_pos (p := fun x => decide (x ∈ intF (v : Int) d)) (decide_eq_true hin)]
      show ((((v : Int) + k) :: _) : List Int).idxOf ((v : Int) + k) = 0
      rw [List.idxOf_cons_self]
    rw [hlow, hrow, idx_ne (by omega)]
    exact Nat.succ_pos _
  unfold dueP
  refine decide_eq_false fun e => ?_
  have : (beat ((List.range d).map (fullRow os v)) (v + d) (intF v d)).length = 0 := by omega
  rw [List.length_eq_zero_iff.mp this] at h0
  cases h0
end K40
end
section
namespace K40
open PySem Pu
theorem str_eq0 : oEq (.str "") (.str "") = some (.bl true) := by
  unfold oEq oEqB
  have e : SeqAt.shaped (PyData.str ("" : Str)) = true := by
    unfold SeqAt.shaped
    simp [PyData.canLay0, PyData.depth]
    decide +kernel
  simp only [D.py, e, Bool.and_self, if_true, PyData.eqv, Option.map_some]
  rw [show ((("" : Str)) == ("" : Str)) = true from beq_self_eq_true _]
theorem str_ne0 : oNe (.str "") (.str "") = some (.bl false) := by
  have h := str_eq0
  unfold oEq at h
  unfold oNe
  obtain ⟨b, e1, e2⟩ := Option.map_eq_some_iff.mp h
  rw [e1]
  cases e2
  rfl
theorem lenset_t {ns : List Int} (h : ns.Nodup) (l : ns.length ≤ 4000) : oLenSet [tI ns] = some (.int ns.length) := by
  have e : oLenSet [tI ns] = (D.ints (ns.map .int)).bind fun ns => if ns.Nodup ∧ ns.length ≤ 4000 then some (.int ns.length) else none := of_eq_true (eq_self _)
  rw [e, ints_map]
  show (if ns.Nodup ∧ ns.length ≤ 4000 then _ else _) = _
  rw [if_pos ⟨h, l⟩]
/-- a room that a book takes -/
structure Ok (r : List Int) (n d : Nat) : Prop where
  mem : ∀ x ∈ r, x ∈ intR n
  len : r.length = d
  lt : r.Pairwise (· < ·)
theorem Ok.nodup {r : List Int} {n d : Nat} (h : Ok r n d) : r.Nodup := h.lt.imp fun q e => by omega
theorem Ok.sorted {r : List Int} {n d : Nat} (h : Ok r n d) : srt ltI r = r := srt_id ltI_tot (h.lt.imp fun {a b} q => decide_eq_false (by omega))
theorem fault_ok (C : Nat) {r : List Int} {n d : Nat} (h : Ok r n d) (hd : d ≤ 12) : F_room_fault C [.int n, .int d, tI r] = .ret (.val (.str "")) := by
  have hl := h.len
  rw [e_room_fault]
  unfold g_room_fault
  rw [sSeq_nx (ρ' := [.im (.int n), .im (.int d), .im (tI r), .no]) (by
    rw [sIf_f (tOf_ok (p2_ok (x := .int r.length) (y := .int d) (pN1_ok (x := tI r) (by (simp only [pV0, pB0, pB0m, pVs, pBs, k_bind, k_of, k_opS, k_pC, k_p1, k_p2, k_pN, k_fN, k_args0, k_args, k_pOfF, k_sAsg, k_sAsgF, k_sRet, k_sRetF, k_sNx, k_tOf, k_bl, k_tNot, k_iRg, k_iSq, k_lst, k_tup, k_tux, k_pCall, k_fCall, k_valv, k_valf, k_newf, k_add, k_sub, k_lt, k_le, k_gt, k_ge, oEq_int, oNe_int, k_int1, k_abs, k_lens, k_lenl, k_lent, k_lenx, k_set0, k_sets, k_nil]; try rfl)) (IsS.t r).len) (by (simp only [pV0, pB0, pB0m, pVs, pBs, k_bind, k_of, k_opS, k_pC, k_p1, k_p2, k_pN, k_fN, k_args0, k_args, k_pOfF, k_sAsg, k_sAsgF, k_sRet, k_sRetF, k_sNx, k_tOf, k_bl, k_tNot, k_iRg, k_iSq, k_lst, k_tup, k_tux, k_pCall, k_fCall, k_valv, k_valf, k_newf, k_add, k_sub, k_lt, k_le, k_gt, k_ge, oEq_int, oNe_int, k_int1, k_abs, k_lens, k_lenl, k_lent, k_lenx, k_set0, k_sets, k_nil]; try rfl)) (by rw [oNe_int, hl, decide_eq_true rfl]; rfl)))]; rfl)]
  obtain ⟨ρ', h1, a, rfl⟩ := sFor_inv (g := gN 3) (it := iSq (pV 2)) (b := sIf (tNot (tOf (pChain oLe oLt (pC (.int 0)) (pB 3) (pB 0)))) (sRet (pC (.str "place"))) sNx) (ρ := [.im (.int n), .im (.int d), .im (tI r), .no]) D.int (fun pre ρ => ∃ a, ρ = [.im (.int n), .im (.int d), .im (tI r), a]) r (by unfold tI; simp only [pV0, pB0, pB0m, pVs, pBs, k_bind, k_of, k_opS, k_pC, k_p1, k_p2, k_pN, k_fN, k_args0, k_args, k_pOfF, k_sAsg, k_sAsgF, k_sRet, k_sRetF, k_sNx, k_tOf, k_bl, k_tNot, k_iRg, k_iSq, k_lst, k_tup, k_tux, k_pCall, k_fCall, k_valv, k_valf, k_newf, k_add, k_sub, k_lt, k_le, k_gt, k_ge, oEq_int, oNe_int, k_int1, k_abs, k_lens, k_lenl, k_lent, k_lenx, k_set0, k_sets, k_nil]) ⟨_, rfl⟩
    (by
      rintro pre x post ρ e ⟨a, rfl⟩
      have hx := mem_intR.mp (h.mem x (by rw [e]; exact List.mem_append_right _ List.mem_cons_self))
      refine ⟨[.im (.int n), .im (.int d), .im (tI r), .im (.int x)], [.im (.int n), .im (.int d), .im (tI r), .im (.int x)], rfl, ?_, _, rfl⟩
      rw [sIf_f (tNot_t (tOf_ok (chainLt (i := 0) (j := x) (k := n) rfl rfl rfl hx.1 hx.2)))]
      rfl)
  rw [sSeq_nx h1]
  rw [sSeq_nx (ρ' := [.im (.int n), .im (.int d), .im (tI r), a]) (by
    rw [sIf_f (tOf_ok (p2_ok (x := .int r.length) (y := .int d) (pN1_ok (x := tI r) (by (simp only [pV0, pB0, pB0m, pVs, pBs, k_bind, k_of, k_opS, k_pC, k_p1, k_p2, k_pN, k_fN, k_args0, k_args, k_pOfF, k_sAsg, k_sAsgF, k_sRet, k_sRetF, k_sNx, k_tOf, k_bl, k_tNot, k_iRg, k_iSq, k_lst, k_tup, k_tux, k_pCall, k_fCall, k_valv, k_valf, k_newf, k_add, k_sub, k_lt, k_le, k_gt, k_ge, oEq_int, oNe_int, k_int1, k_abs, k_lens, k_lenl, k_lent, k_lenx, k_set0, k_sets, k_nil]; try rfl)) (lenset_t h.nodup (by omega))) (by (simp only [pV0, pB0, pB0m, pVs, pBs, k_bind, k_of, k_opS, k_pC, k_p1, k_p2, k_pN, k_fN, k_args0, k_args, k_pOfF, k_sAsg, k_sAsgF, k_sRet, k_sRetF, k_sNx, k_tOf, k_bl, k_tNot, k_iRg, k_iSq, k_lst, k_tup, k_tux, k_pCall, k_fCall, k_valv, k_valf, k_newf, k_add, k_sub, k_lt, k_le, k_gt, k_ge, oEq_int, oNe_int, k_int1, k_abs, k_lens, k_lenl, k_lent, k_lenx, k_set0, k_sets, k_nil]; try rfl)) (by rw [oNe_int, hl, decide_eq_true rfl]; rfl)))]; rfl)]
  simp only [pV0, pB0, pB0m, pVs, pBs, k_bind, k_of, k_opS, k_pC, k_p1, k_p2, k_pN, k_fN, k_args0, k_args, k_pOfF, k_sAsg, k_sAsgF, k_sRet, k_sRetF, k_sNx, k_tOf, k_bl, k_tNot, k_iRg, k_iSq, k_lst, k_tup, k_tux, k_pCall, k_fCall, k_valv, k_valf, k_newf, k_add, k_sub, k_lt, k_le, k_gt, k_ge, oEq_int, oNe_int, k_int1, k_abs, k_lens, k_lenl, k_lent, k_lenx, k_set0, k_sets, k_nil]
  rfl
/-! ### the book -/
def kvs (rs : List (List Int)) : List (List PKey × D) := rs.map fun r => (r.map Sum.inl, .bl true)
theorem inl_inj : ∀ {a b : List Int}, (a.map Sum.inl : List PKey) = b.map Sum.inl → a = b
  | [], [], _ => rfl
  | [], _ :: _, h => by cases h
  | _ :: _, [], h => by cases h
  | x :: a, y :: b, h => by
    injection h with h1 h2
    injection h1 with h1
    rw [h1, inl_inj h2]
theorem kvs_no {rs : List (List Int)} {r : List Int} (h : r ∉ rs) : kvGet (kvs rs) (r.map Sum.inl) = none ∧ kvPut (kvs rs) (r.map Sum.inl) (.bl true) = kvs (rs ++ [r]) := by
  have hn : ∀ kv ∈ kvs rs, ¬ kv.1 = r.map Sum.inl := fun kv hkv e => by
    obtain ⟨q, hq, rfl⟩ := List.mem_map.mp hkv
    exact h (inl_inj e ▸ hq)
  constructor
  · unfold kvGet
    rw [List.find?_eq_none.mpr fun kv hkv => by simpa using hn kv hkv]; rfl
  · unfold kvPut
    rw [if_neg]
    · unfold kvs; rw [List.map_append]; rfl
    · intro e
      obtain ⟨kv, hkv, e2⟩ := List.any_eq_true.mp e
      exact hn kv hkv (of_decide_eq_true e2)
theorem kvs_keys : ∀ {rs : List (List Int)}, (∀ r ∈ rs, r ≠ []) → keysI (kvs rs) = some rs
  | [], _ => rfl
  | r :: rs, h => by
    show (keyI (r.map Sum.inl)).bind (fun t => if t = [] then none else (keysI (kvs rs)).map fun l => t :: l) = _
    rw [keyI_map, kvs_keys fun x hx => h x (List.mem_cons_of_mem _ hx)]
    show (if r = [] then none else some (r :: rs)) = _
    rw [if_neg (h r List.mem_cons_self)]
theorem key_t (r : List Int) : (tI r).key = some (r.map Sum.inl) := by
  show (D.ints (r.map .int)).map _ = _
  rw [ints_map]; rfl
theorem pInD_ok {i : Nat} {a : PE'} {ρ : Rho} {r : List Int} {kv : List (List PKey × D)} (h : a ρ = .ok (tI r)) (h2 : ρ[i]? = some (.md kv)) : pInD i a ρ = .ok (.bl (kvGet kv (r.map Sum.inl)).isSome) := by
  unfold pInD
  rw [h, k_bind]
  simp only [h2, key_t, Option.map_some, k_of]
theorem sPutD_ok {i : Nat} {a b : PE'} {ρ : Rho} {r : List Int} {d : D} {kv : List (List PKey × D)} (h : a ρ = .ok (tI r)) (hb : b ρ = .ok d) (h2 : ρ[i]? = some (.md kv)) (h3 : kv.length < line) : sPutD i a b ρ = .nx (ρ.set i (.md (kvPut kv (r.map Sum.inl) d))) := by
  unfold sPutD
  rw [hb, k_opS]
  simp only [h2]
  rw [h, k_opS]
  simp only [key_t, if_pos h3]
theorem fSortD_ok {i : Nat} {ρ : Rho} {rs : List (List Int)} (h2 : ρ[i]? = some (.md (kvs rs))) (h : ∀ r ∈ rs, r ≠ []) : fSortD i ρ = .ok ((srt lexI rs).map tI) := by
  unfold fSortD
  simp only [h2, kvs_keys h, Option.map_some, k_of]
  rfl
theorem sFld_ok {i C : Nat} {f : Str} {e : PE'} {ρ : Rho} {d : D} {fs : List (Str × D)} (h : e ρ = .ok d) (h2 : ρ[i]? = some (.mo C fs)) (h3 : fs.length < 100) : sFld i C f e ρ = .nx (ρ.set i (.mo C (putD f d fs))) := by
  unfold sFld
  rw [h, k_opS]
  simp only [h2]
  rw [if_pos ⟨trivial, h3⟩]
def fldsOf (n d : Nat) (rs : List (List Int)) : List (Str × D) := putD "rooms" (.tup ((srt lexI rs).map tI)) (putD "size" (.int d) (putD "places" (.int n) []))
theorem book_ok (C : Nat) {n d : Nat} {rs : List (List Int)} (hn1 : 1 ≤ n) (hn : n ≤ 12) (hd1 : 1 ≤ d) (hd : d ≤ n) (hok : ∀ r ∈ rs, Ok r n d) (nd : rs.Nodup) (hr : rs.length ≤ 100000) :
    F_Book___init__ C [.int n, .int d, .lst (rs.map tI)] = .ok C (fldsOf n d rs) := by
  have hl := l16
  have hne : ∀ r ∈ rs, r ≠ [] := fun r h e => by have := (hok r h).len; rw [e] at this; have : 0 = d := this; omega
  have hlf : (fldsOf n d rs).length ≤ 3 := by
    unfold fldsOf
    have h1 := putD_ne "rooms" (.tup ((srt lexI rs).map tI)) (putD "size" (.int d) (putD "places" (.int n) []))
    have h2 := putD_ne "size" (.int d) (putD "places" (.int n) [])
    have h3 := putD_ne "places" (.int n) []
    have : ([] : List (Str × D)).length = 0 := rfl
    omega
  have h2 := putD_ne "size" (.int d) (putD "places" (.int n) [])
  have h3 := putD_ne "places" (.int n) []
  have h30 : ([] : List (Str × D)).length = 0 := rfl
  have key : g_Book___init__ C [.mo C [], .im (.int n), .im (.int d), .im (.lst (rs.map tI)), .no, .no, .no, .no, .no] = g_Book___init__ C [.mo C [], .im (.int n), .im (.int d), .im (.lst (rs.map tI)), .no, .no, .no, .no, .no] := rfl
  have run : ∃ ρ, g_Book___init__ C [.mo C [], .im (.int n), .im (.int d), .im (.lst (rs.map tI)), .no, .no, .no, .no, .no] = .nx (.mo C (fldsOf n d rs) :: ρ) := by
    unfold g_Book___init__
    rw [sSeq_nx (ρ' := [.mo C [], .im (.int n), .im (.int d), .im (.lst (rs.map tI)), .no, .no, .no, .no, .no]) (by
      rw [sIf_f (tNot_t (tOf_ok (chainLe (i := 1) (j := n) (k := 12) rfl rfl rfl (by omega) (by omega))))]; rfl)]
    rw [sSeq_nx (ρ' := [.mo C [], .im (.int n), .im (.int d), .im (.lst (rs.map tI)), .no, .no, .no, .no, .no]) (by
      rw [sIf_f (tNot_t (tOf_ok (chainLe (i := 1) (j := d) (k := n) rfl rfl rfl (by omega) (by omega))))]; rfl)]
    rw [sSeq_nx (show sNewD 4 [.mo C [], .im (.int n), .im (.int d), .im (.lst (rs.map tI)), .no, .no, .no, .no, .no] = .nx [.mo C [], .im (.int n), .im (.int d), .im (.lst (rs.map tI)), .md [], .no, .no, .no, .no] from rfl)]
    obtain ⟨ρ', h1, a, b, c, e, rfl⟩ := sFor_inv (g := gT [5, 6]) (it := iEn (pV 3)) (b := (sSeq (sAsg (gN 7) (pCall (F_room_fault C) [(pV 1), (pV 2), (pV 6)]))
      (sSeq (sAsg (gN 8) (pN oTupleOf [(pOfF (fN oSorted [(pB 6)]))]))
      (sSeq (sIf (tAnd (tOf (p2 oEq (pB 7) (pC (.str "")))) (tOf (pInD 4 (pV 8)))) (sAsg (gN 7) (pC (.str "again"))) sNx)
      (sSeq (sIf (tOf (p2 oNe (pB 7) (pC (.str "")))) sNo sNx)
      (sPutD 4 (pV 8) (pC (.bl true)))))))) (ρ := [.mo C [], .im (.int n), .im (.int d), .im (.lst (rs.map tI)), .md [], .no, .no, .no, .no]) (fun p : Nat × List Int => .tup [.int (p.1 : Nat), tI p.2])
      (fun pre ρ => ∃ a b c e, ρ = [.mo C [], .im (.int n), .im (.int d), .im (.lst (rs.map tI)), .md (kvs (pre.map (·.2))), a, b, c, e]) (enumL 0 rs) (by rw [k_iEn (d := .lst (rs.map tI)) (by (simp only [pV0, pB0, pB0m, pVs, pBs, k_bind, k_of, k_opS, k_pC, k_p1, k_p2, k_pN, k_fN, k_args0, k_args, k_pOfF, k_sAsg, k_sAsgF, k_sRet, k_sRetF, k_sNx, k_tOf, k_bl, k_tNot, k_iRg, k_iSq, k_lst, k_tup, k_tux, k_pCall, k_fCall, k_valv, k_valf, k_newf, k_add, k_sub, k_lt, k_le, k_gt, k_ge, oEq_int, oNe_int, k_int1, k_abs, k_lens, k_lenl, k_lent, k_lenx, k_set0, k_sets, k_nil]; try rfl)) rfl, enum_map]) ⟨_, _, _, _, rfl⟩
      (by
        rintro pre ⟨j, r⟩ post ρ e ⟨a, b, c, z, rfl⟩
        obtain ⟨e1, e2, e3⟩ := enum_split e
        have hr' := List.mem_of_getElem? e2
        have O := hok r hr'
        have enumL2 : ∀ (k : Nat) (l : List (List Int)), (enumL k l).map (·.2) = l := by
          intro k l
          induction l generalizing k with
          | nil => rfl
          | cons x r ih => show x :: (enumL (k + 1) r).map (·.2) = _; rw [ih]
        have hsp : rs = pre.map (·.2) ++ r :: post.map (·.2) := by
          have := congrArg (List.map (·.2)) e
          rw [enumL2, List.map_append] at this
          exact this
        have hnot : r ∉ pre.map (·.2) := by
          intro hm
          rw [hsp] at nd
          exact (List.nodup_append.mp nd).2.2 r hm r List.mem_cons_self rfl
        obtain ⟨g1, g2⟩ := kvs_no hnot
        have hlen : (kvs (pre.map (·.2))).length < line := by
          unfold kvs
          rw [List.length_map, List.length_map]
          omega
        refine ⟨[.mo C [], .im (.int n), .im (.int d), .im (.lst (rs.map tI)), .md (kvs (pre.map (·.2))), .im (.int j), .im (tI r), c, z], [.mo C [], .im (.int n), .im (.int d), .im (.lst (rs.map tI)), .md (kvs ((pre ++ [(j, r)]).map (·.2))), .im (.int j), .im (tI r), .im (.str ""), .im (tI r)], rfl, ?_, _, _, _, _, rfl⟩
        rw [sSeq_nx (ρ' := [.mo C [], .im (.int n), .im (.int d), .im (.lst (rs.map tI)), .md (kvs (pre.map (·.2))), .im (.int j), .im (tI r), .im (.str ""), z]) (by
          rw [k_sAsg, call_ok (args3 (x := .int n) (y := .int d) (z := tI r) rfl rfl rfl) (fault_ok C O (by omega))]; rfl)]
        rw [sSeq_nx (ρ' := [.mo C [], .im (.int n), .im (.int d), .im (.lst (rs.map tI)), .md (kvs (pre.map (·.2))), .im (.int j), .im (tI r), .im (.str ""), .im (tI r)]) (by
          rw [k_sAsg, pN1_ok (z := tI r) (pOfF_ok (fN1_ok (x := tI r) (z := r.map .int) rfl (by rw [sorted_t, O.sorted]))) rfl]; rfl)]
        rw [sSeq_nx (ρ' := [.mo C [], .im (.int n), .im (.int d), .im (.lst (rs.map tI)), .md (kvs (pre.map (·.2))), .im (.int j), .im (tI r), .im (.str ""), .im (tI r)]) (by
          rw [sIf_f (by rw [k_tAnd, tOf_ok (p2_ok (x := .str "") (y := .str "") rfl rfl str_eq0), k_bind, if_pos rfl]; exact tOf_ok (by rw [pInD_ok (r := r) (kv := kvs (pre.map (·.2))) rfl rfl, g1]; rfl))]; rfl)]
        rw [sSeq_nx (ρ' := [.mo C [], .im (.int n), .im (.int d), .im (.lst (rs.map tI)), .md (kvs (pre.map (·.2))), .im (.int j), .im (tI r), .im (.str ""), .im (tI r)]) (by
          rw [sIf_f (tOf_ok (p2_ok (x := .str "") (y := .str "") rfl rfl str_ne0))]; rfl)]
        rw [sPutD_ok (r := r) (d := .bl true) (kv := kvs (pre.map (·.2))) rfl rfl rfl hlen, g2, List.map_append]
        rfl)
    rw [sSeq_nx h1]
    have enumL2 : ∀ (k : Nat) (l : List (List Int)), (enumL k l).map (·.2) = l := by
      intro k l
      induction l generalizing k with
      | nil => rfl
      | cons x r ih => show x :: (enumL (k + 1) r).map (·.2) = _; rw [ih]
    rw [enumL2]
    rw [sSeq_nx (sFld_ok (d := .int n) (fs := []) rfl rfl (by decide))]
    simp only [k_set0, k_sets]
    rw [sSeq_nx (sFld_ok (d := .int d) (fs := putD "places" (.int n) []) rfl rfl (by omega))]
    simp only [k_set0, k_sets]
    rw [sFld_ok (d := .tup ((srt lexI rs).map tI)) (fs := putD "size" (.int d) (putD "places" (.int n) [])) (pN1_ok (pOfF_ok (fSortD_ok (rs := rs) rfl hne)) rfl) rfl (by omega)]
    exact ⟨_, rfl⟩
  obtain ⟨ρ, hρ⟩ := run
  exact runI_eq (ρ := ρ) rfl hρ
end K40
end
section
namespace K40
open PySem Pu
theorem make_ok {F : List D → OI} {as : List PE'} {ρ : Rho} {ds : List D} {C : Nat} {fs : List (Str × D)} (ha : pArgs as ρ = .ok ds) (h : F ds = .ok C fs) : pMake F as ρ = .ok (.obj C (fs.map (·.1)) (fs.map (·.2))) := by
  have e : pMake F as ρ = (pArgs as ρ).bind fun xs => (F xs).obj := of_eq_true (eq_self _)
  rw [e, ha, k_bind, h]; rfl
def bookD (C n d : Nat) (rs : List (List Int)) : D := .obj C ((fldsOf n d rs).map (·.1)) ((fldsOf n d rs).map (·.2))
theorem flds_eq (n d : Nat) (rs : List (List Int)) : fldsOf n d rs = ([((("places" : Str)), D.int n), (("size" : Str), D.int d), (("rooms" : Str), D.tup ((srt lexI rs).map tI))] : List (Str × D)) := by
  have h1 : ¬ (("places" : Str) = "size") := by decide +kernel
  have h2 : ¬ (("places" : Str) = "rooms") := by decide +kernel
  have h3 : ¬ (("size" : Str) = "rooms") := by decide +kernel
  unfold fldsOf
  show putD "rooms" _ (putD "size" _ [(("places" : Str), D.int n)]) = _
  have e1 : putD "size" (.int d) [(("places" : Str), D.int n)] = [(("places" : Str), D.int n), (("size" : Str), .int d)] := by
    show (if ("places" : Str) = "size" then _ else (("places" : Str), D.int n) :: putD "size" (.int d) []) = _
    rw [if_neg h1]; rfl
  rw [e1]
  show (if ("places" : Str) = "rooms" then _ else (("places" : Str), D.int n) :: (if ("size" : Str) = "rooms" then _ else (("size" : Str), D.int d) :: putD "rooms" _ [])) = _
  rw [if_neg h2, if_neg h3]; rfl
theorem fld_places (C n d : Nat) (rs : List (List Int)) : oFld C "places" (bookD C n d rs) = some (.int n) := by
  unfold bookD
  rw [flds_eq]
  show (if C = C then List.lookup _ [(("places" : Str), D.int n), (("size" : Str), D.int d), (("rooms" : Str), _)] else none) = _
  rw [if_pos rfl, List.lookup_cons, beq_self_eq_true]
theorem fld_size (C n d : Nat) (rs : List (List Int)) : oFld C "size" (bookD C n d rs) = some (.int d) := by
  have h1 : (("size" : Str) == "places") = false := by decide +kernel
  unfold bookD
  rw [flds_eq]
  show (if C = C then List.lookup _ [(("places" : Str), D.int n), (("size" : Str), D.int d), (("rooms" : Str), _)] else none) = _
  rw [if_pos rfl, List.lookup_cons, h1]
  dsimp only
  rw [List.lookup_cons, beq_self_eq_true]
theorem fld_rooms (C n d : Nat) (rs : List (List Int)) : oFld C "rooms" (bookD C n d rs) = some (.tup ((srt lexI rs).map tI)) := by
  have h1 : (("rooms" : Str) == "places") = false := by decide +kernel
  have h2 : (("rooms" : Str) == "size") = false := by decide +kernel
  unfold bookD
  rw [flds_eq]
  show (if C = C then List.lookup _ [(("places" : Str), D.int n), (("size" : Str), D.int d), (("rooms" : Str), _)] else none) = _
  rw [if_pos rfl, List.lookup_cons, h1]
  dsimp only
  rw [List.lookup_cons, h2]
  dsimp only
  rw [List.lookup_cons, beq_self_eq_true]
def all (os : List (List Int)) (v d : Nat) : List (List Int) := due os v d ++ [intF v d]
theorem all_good {os : List (List Int)} {v d : Nat} (G : Good os v d) : (∀ r ∈ all os v d, Ok r (v + d) d) ∧ (all os v d).Nodup ∧ (all os v d).length ≤ 20737 := by
  have := G.d4
  have := G.v8
  refine ⟨fun r hr => ?_, ?_, ?_⟩
  · rcases List.mem_append.mp hr with hr | hr
    · obtain ⟨a, b, c⟩ := G.room (List.mem_filter.mp hr).1
      exact ⟨a.mem, b, c⟩
    · rw [List.mem_singleton.mp hr]
      refine ⟨fun x hx => ?_, intF_len _ _, ?_⟩
      · obtain ⟨k, hk, rfl⟩ := List.mem_map.mp hx
        have := List.mem_range.mp hk
        exact mem_intR.mpr (by omega)
      · unfold intF
        exact List.Pairwise.map _ (fun a b h => by omega) (List.pairwise_lt_range (n := d))
  · refine List.nodup_append.mpr ⟨(subs_nodup d _ (by rw [intR_len]; omega) (intR_nodup _)).filter _, List.pairwise_singleton _ _, fun a ha b hb e => ?_⟩
    have hp := (List.mem_filter.mp ha).2
    rw [e, List.mem_singleton.mp hb, own_beaten G] at hp
    cases hp
  · have h1 : (due os v d).length ≤ 20736 := Nat.le_trans (List.length_filter_le _ _) (Nat.le_trans (subs_len d _ (by rw [intR_len]; omega)) (pow12 (by omega)))
    unfold all
    rw [List.length_append]
    show (due os v d).length + 1 ≤ _
    omega
theorem ubook_ok (C : Nat) {g : D} {os : List (List Int)} {f : List Int → D} {v d : Nat} (G : Good os v d) (I : IsG g os f) : F_unbeaten_book C [g] = .ret (.val (bookD C (v + d) d (all os v d))) := by
  have hl := l16
  have := G.d1
  have := G.d4
  have := G.v8
  obtain ⟨a1, a2, a3⟩ := all_good G
  have a4 := a3
  unfold all at a4
  rw [List.length_append] at a4
  rw [e_unbeaten_book]
  unfold g_unbeaten_book
  rw [sSeq_nx (k_asgT (call_ok (args1 (by (simp only [pV0, pB0, pB0m, pVs, pBs, k_bind, k_of, k_opS, k_pC, k_p1, k_p2, k_pN, k_fN, k_args0, k_args, k_pOfF, k_sAsg, k_sAsgF, k_sRet, k_sRetF, k_sNx, k_tOf, k_bl, k_tNot, k_iRg, k_iSq, k_lst, k_tup, k_tux, k_pCall, k_fCall, k_valv, k_valf, k_newf, k_add, k_sub, k_lt, k_le, k_gt, k_ge, oEq_int, oNe_int, k_int1, k_abs, k_lens, k_lenl, k_lent, k_lenx, k_set0, k_sets, k_nil]; try rfl))) (check_ok C G I)))]
  simp only [k_set0, k_sets]
  have hc := k_fCat (a := pCall (F_unbeaten_rooms C) [(pV 0)]) (b := pOfF (nLst [(pCall (F_own_places C) [(pV 0)])])) (ρ := [.im g, .im (.int d), .im (.int v)]) (xs := (due os v d).map tI) (ys := [tI (intF v d)]) (call_ok (args1 (x := g) rfl) (ub_ok C G I)) (pOfF_ok (k_nLst _ _ (args1 (call_ok (args1 (x := g) rfl) (own_ok C G I))) (by show 1 ≤ line; omega))) (by rw [List.length_map]; show _ + 1 ≤ line; have : [intF (v : Int) d].length = 1 := rfl; omega)
  have he : (due os v d).map tI ++ [tI (intF v d)] = (all os v d).map tI := by unfold all; rw [List.map_append]; rfl
  rw [he] at hc
  rw [k_sRet, make_ok (args3 (x := .int ((v + d : Nat) : Int)) (y := .int d) (by simp only [pV0, pB0, pB0m, pVs, pBs, k_bind, k_of, k_opS, k_pC, k_p1, k_p2, k_pN, k_fN, k_args0, k_args, k_pOfF, k_sAsg, k_sAsgF, k_sRet, k_sRetF, k_sNx, k_tOf, k_bl, k_tNot, k_iRg, k_iSq, k_lst, k_tup, k_tux, k_pCall, k_fCall, k_valv, k_valf, k_newf, k_add, k_sub, k_lt, k_le, k_gt, k_ge, oEq_int, oNe_int, k_int1, k_abs, k_lens, k_lenl, k_lent, k_lenx, k_set0, k_sets, k_nil]; rfl) (by (simp only [pV0, pB0, pB0m, pVs, pBs, k_bind, k_of, k_opS, k_pC, k_p1, k_p2, k_pN, k_fN, k_args0, k_args, k_pOfF, k_sAsg, k_sAsgF, k_sRet, k_sRetF, k_sNx, k_tOf, k_bl, k_tNot, k_iRg, k_iSq, k_lst, k_tup, k_tux, k_pCall, k_fCall, k_valv, k_valf, k_newf, k_add, k_sub, k_lt, k_le, k_gt, k_ge, oEq_int, oNe_int, k_int1, k_abs, k_lens, k_lenl, k_lent, k_lenx, k_set0, k_sets, k_nil]; try rfl)) (pOfF_ok hc)) (book_ok C (by omega) (by omega) (by omega) (by omega) a1 a2 (by omega))]
  simp only [pV0, pB0, pB0m, pVs, pBs, k_bind, k_of, k_opS, k_pC, k_p1, k_p2, k_pN, k_fN, k_args0, k_args, k_pOfF, k_sAsg, k_sAsgF, k_sRet, k_sRetF, k_sNx, k_tOf, k_bl, k_tNot, k_iRg, k_iSq, k_lst, k_tup, k_tux, k_pCall, k_fCall, k_valv, k_valf, k_newf, k_add, k_sub, k_lt, k_le, k_gt, k_ge, oEq_int, oNe_int, k_int1, k_abs, k_lens, k_lenl, k_lent, k_lenx, k_set0, k_sets, k_nil]
  rfl
theorem sorted_tups {rs : List (List Int)} (h : ∀ r ∈ rs, r ≠ []) : oSorted [.lst (rs.map tI)] = some ((srt lexI rs).map tI) := sortD_tups h
theorem lbook_ok (C : Nat) {g : D} {os : List (List Int)} {f : List Int → D} {v d : Nat} (G : Good os v d) (I : IsG g os f) : F__law_book C [g, .int ((v + d : Nat) : Int), .int d, .lst ((due os v d).map tI)] = .ret (.val (.bl true)) := by
  have hl := l16
  have := G.d1
  have := G.d4
  have := G.v8
  obtain ⟨a1, a2, a3⟩ := all_good G
  have a4 := a3
  unfold all at a4
  rw [List.length_append] at a4
  have hB : ∀ B : D, B = bookD C (v + d) d (all os v d) → oFld C "places" B = some (.int ((v + d : Nat) : Int)) ∧ oFld C "size" B = some (.int d) ∧ oFld C "rooms" B = some (.tup ((srt lexI (all os v d)).map tI)) ∧ oIsC C B = some (.bl true) := by
    rintro B rfl
    refine ⟨fld_places _ _ _ _, fld_size _ _ _ _, fld_rooms _ _ _ _, ?_⟩
    show (if C = C then some (D.bl true) else none) = _
    rw [if_pos rfl]
  rw [e__law_book]
  unfold g__law_book
  rw [sSeq_nx (show sAsg (gN 4) (pCall (F_unbeaten_book C) [(pV 0)]) [.im g, .im (.int ((v + d : Nat) : Int)), .im (.int d), .im (.lst ((due os v d).map tI)), .no] = .nx [.im g, .im (.int ((v + d : Nat) : Int)), .im (.int d), .im (.lst ((due os v d).map tI)), .im (bookD C (v + d) d (all os v d))] by
    rw [k_sAsg, call_ok (args1 (x := g) rfl) (ubook_ok C G I)]; rfl)]
  obtain ⟨b1, b2, b3, b4⟩ := hB _ rfl
  generalize bookD C (v + d) d (all os v d) = B at b1 b2 b3 b4
  rw [sSeq_nx (show sIf _ _ _ [.im g, .im (.int ((v + d : Nat) : Int)), .im (.int d), .im (.lst ((due os v d).map tI)), .im B] = .nx [.im g, .im (.int ((v + d : Nat) : Int)), .im (.int d), .im (.lst ((due os v d).map tI)), .im B] by
    rw [sIf_f (tOr_f (tNot_t (tOf_ok (p1_ok (x := B) rfl b4))) (tOr_f (tOf_ok (p2_ok (x := .int ((v + d : Nat) : Int)) (y := .int ((v + d : Nat) : Int)) (p1_ok (x := B) rfl b1) rfl (by rw [oNe_int, decide_eq_true rfl]; rfl))) (tOf_ok (p2_ok (x := .int d) (y := .int d) (p1_ok (x := B) rfl b2) rfl (by rw [oNe_int, decide_eq_true rfl]; rfl)))))]
    rfl)]
  have hr : (pTupRg [(p2 oSub (pB 1) (pB 2)), (pV 1)]) [.im g, .im (.int ((v + d : Nat) : Int)), .im (.int d), .im (.lst ((due os v d).map tI)), .im B] = .ok (tI (intF v d)) := by
    have := tupRg2 (a := p2 oSub (pB 1) (pB 2)) (b := pV 1) (ρ := [.im g, .im (.int ((v + d : Nat) : Int)), .im (.int d), .im (.lst ((due os v d).map tI)), .im B]) (n := v) (m := v + d) (by simp only [pV0, pB0, pB0m, pVs, pBs, k_bind, k_of, k_opS, k_pC, k_p1, k_p2, k_pN, k_fN, k_args0, k_args, k_pOfF, k_sAsg, k_sAsgF, k_sRet, k_sRetF, k_sNx, k_tOf, k_bl, k_tNot, k_iRg, k_iSq, k_lst, k_tup, k_tux, k_pCall, k_fCall, k_valv, k_valf, k_newf, k_add, k_sub, k_lt, k_le, k_gt, k_ge, oEq_int, oNe_int, k_int1, k_abs, k_lens, k_lenl, k_lent, k_lenx, k_set0, k_sets, k_nil]; rw [show ((v + d : Nat) : Int) - (d : Int) = (v : Int) by omega]) rfl (by omega) (by omega)
    rw [show v + d - v = d by omega] at this
    exact this
  have hc := k_fCat (a := pB 3) (b := pOfF (nLst [(pTupRg [(p2 oSub (pB 1) (pB 2)), (pV 1)])])) (ρ := [.im g, .im (.int ((v + d : Nat) : Int)), .im (.int d), .im (.lst ((due os v d).map tI)), .im B]) (xs := (due os v d).map tI) (ys := [tI (intF v d)]) rfl (pOfF_ok (k_nLst _ _ (args1 hr) (by show 1 ≤ line; omega))) (by rw [List.length_map]; show _ + 1 ≤ line; have : [intF (v : Int) d].length = 1 := rfl; omega)
  have he : (due os v d).map tI ++ [tI (intF v d)] = (all os v d).map tI := by unfold all; rw [List.map_append]; rfl
  rw [he] at hc
  have hne : ∀ r ∈ all os v d, r ≠ [] := fun r h e => by have := (a1 r h).len; rw [e] at this; have : 0 = d := this; omega
  have hlen : (srt lexI (all os v d)).length ≤ 100000 := by rw [(srt_perm _).length_eq]; omega
  have hlr : ∀ r ∈ srt lexI (all os v d), r.length ≤ 100000 := fun r h => by
    rw [(a1 r ((srt_perm _).mem_iff.mp h)).len]; omega
  rw [k_sRet, call_ok (args2 (x := .lst ((srt lexI (all os v d)).map tI)) (y := .lst ((srt lexI (all os v d)).map tI)) (pOfF_ok (fN1_ok (x := .tup ((srt lexI (all os v d)).map tI)) (p1_ok (x := B) rfl b3) rfl)) (pOfF_ok (fN1_ok (pOfF_ok hc) (sorted_tups hne)))) (rows_ok C (fun r => .inl rfl) (fun r => .t r) hlen hlr)]
  simp only [pV0, pB0, pB0m, pVs, pBs, k_bind, k_of, k_opS, k_pC, k_p1, k_p2, k_pN, k_fN, k_args0, k_args, k_pOfF, k_sAsg, k_sAsgF, k_sRet, k_sRetF, k_sNx, k_tOf, k_bl, k_tNot, k_iRg, k_iSq, k_lst, k_tup, k_tux, k_pCall, k_fCall, k_valv, k_valf, k_newf, k_add, k_sub, k_lt, k_le, k_gt, k_ge, oEq_int, oNe_int, k_int1, k_abs, k_lens, k_lenl, k_lent, k_lenx, k_set0, k_sets, k_nil]
  rfl
end K40
end
section
namespace K40
open PySem Pu
theorem seq_asg {i : Nat} {e : PE'} {b : SS} {ρ : Rho} {d : D} {r : OF} (h : e ρ = .ok d) (k : (b (ρ.set i (.im d))).fn = r) : (sSeq (sAsg (gN i) e) b ρ).fn = r := by
  rw [sSeq_nx (ρ' := ρ.set i (.im d)) (by rw [k_sAsg, h, k_opS]), k]
theorem seq_asgF {i : Nat} {e : PF'} {b : SS} {ρ : Rho} {d : List D} {r : OF} (h : e ρ = .ok d) (k : (b (ρ.set i (.ml d))).fn = r) : (sSeq (sAsgF i e) b ρ).fn = r := by
  rw [sSeq_nx (ρ' := ρ.set i (.ml d)) (by rw [k_sAsgF, h, k_opS]), k]
theorem seq_skip {t : PT'} {a b : SS} {ρ : Rho} {r : OF} (h : t ρ = .ok false) (k : (b ρ).fn = r) : (sSeq (sIf t a sNx) b ρ).fn = r := by
  rw [sSeq_nx (ρ' := ρ) (by rw [sIf_f h, k_sNx]), k]
theorem seq_nx {a b : SS} {ρ ρ' : Rho} {r : OF} (h : a ρ = .nx ρ') (k : (b ρ').fn = r) : (sSeq a b ρ).fn = r := by rw [sSeq_nx h, k]
theorem lists_eq (a b : List (List Int)) : oEq (.lst (a.map lI)) (.lst (b.map lI)) = some (.bl (decide (a = b))) := En.oEq (E := En.lst (En.lst En.int)) (by decide) a b
theorem vAnd_t {a b : PE'} {ρ : Rho} (h : a ρ = .ok (.bl true)) : vAnd a b ρ = b ρ := by unfold vAnd; rw [h, k_bind]
theorem k_fRev {a : PE'} {ρ : Rho} {xs : List D} (h : a ρ = .ok (.lst xs)) : fRev a ρ = .ok xs.reverse := by
  have e : fRev a ρ = (a ρ).bind fun x => .of (oRev x) := of_eq_true (eq_self _)
  rw [e, h, k_bind]; rfl
theorem Good.rev {os : List (List Int)} {v d : Nat} (G : Good os v d) : Good (os.map List.reverse) v d :=
  ⟨by rw [List.length_map]; exact G.len, fun o ho => by
    obtain ⟨p, hp, rfl⟩ := List.mem_map.mp ho
    exact (List.reverse_perm p).trans (G.perm p hp), G.d1, G.d4, G.v1, G.v8⟩
theorem ranksL (os : List (List Int)) (v d : Nat) : (.lst ((List.range d).map fun k => tab (fullRow os v k)) : D) = ranksD os v d := by
  unfold ranksD; rw [List.map_map]; rfl
/-- the rooms that the law holds due -/
theorem due_ok (C i6 i14 i7 : Nat) {os : List (List Int)} {v d : Nat} (G : Good os v d) {ρ : Rho} (h7 : pV i7 ρ = .ok (.lst ((subs d (intR (v + d))).map tI))) (h6 : ∀ r, pV i6 ((wipeR ρ [i14]).set i14 (.im (tI r))) = .ok (ranksD os v d)) (h14 : ∀ r, pV i14 ((wipeR ρ [i14]).set i14 (.im (tI r))) = .ok (tI r)) :
    fComp [i14] (gN i14) (iSq (pV i7)) (tOf (p2 oEq (pN oLen [(pCall (F__law_beaters C) [(pV i6), (pV i14)])]) (pC (.int 0)))) (pV i14) ρ = .ok ((due os v d).map tI) :=
  fComp_ok tI (dueP os v d) tI (subs d (intR (v + d))) (by rw [k_iSq, h7, k_bind, k_lst, k_of]) (fun r hr => ⟨(wipeR ρ [i14]).set i14 (.im (tI r)), rfl,
    tOf_ok (p2_ok (x := .int (beat ((List.range d).map (fullRow os v)) (v + d) r).length) (y := .int 0) (pN1_ok (call_ok (args2 (h6 r) (h14 r)) (lbeat_ok C G.rows (G.room hr).1)) (IsS.l _).len) rfl (oEq_int _ _)), fun _ => h14 r⟩)
theorem law_true (C : Nat) (ns : List Int) (h63 : ns.length ≤ 63) : F_law C [.scr ns] = .ret (.val (.bl true)) := by
  have hl := l16
  obtain ⟨c0, c00, e0⟩ := cell_ok C ns 0 (by decide)
  obtain ⟨c1, c10, e1⟩ := cell_ok C ns 1 (by decide)
  obtain ⟨c2, c20, e2⟩ := cell_ok C ns 2 (by decide)
  obtain ⟨c7, c70, e7⟩ := cell_ok C ns 7 (by decide)
  obtain ⟨d, hd⟩ : ∃ d : Nat, 1 + c0 % 4 = (d : Int) := ⟨(1 + c0 % 4).toNat, by omega⟩
  have d1 : 1 ≤ d := by omega
  have d4 : d ≤ 4 := by omega
  have hm0 : (0 : Int) < (if (8 : Int) - (d : Int) < 6 then (8 : Int) - (d : Int) else (6 : Int)) := by split <;> omega
  have hm8 : (if (8 : Int) - (d : Int) < 6 then (8 : Int) - (d : Int) else (6 : Int)) ≤ 6 := by split <;> omega
  generalize hmd : (if (8 : Int) - (d : Int) < 6 then (8 : Int) - (d : Int) else (6 : Int)) = m at hm0 hm8
  have hv0 := Int.emod_nonneg c1 (show m ≠ 0 by omega)
  have hv1 := Int.emod_lt_of_pos c1 hm0
  rw [e_law]
  unfold g_law
  refine seq_asg (d := .int d) (by
    rw [p2_ok (x := .int 1) (y := .int (c0 % 4)) rfl (p2_ok (x := .int c0) (y := .int 4) (pN1_ok (call_ok (args2 (x := .scr ns) (y := .int 0) rfl rfl) e0) rfl) rfl (oMod_pos (by decide))) (k_add _ _), hd]) ?_
  refine seq_asg (d := .int (1 + c1 % m)) (p2_ok (x := .int 1) (y := .int (c1 % m)) rfl (p2_ok (x := .int c1) (y := .int m) (pN1_ok (call_ok (args2 (x := .scr ns) (y := .int 1) rfl rfl) e1) rfl) (by
    have e : oMin2 [.int 6, .int ((8 : Int) - d)] = some (.int (if (8 : Int) - (d : Int) < 6 then (8 : Int) - (d : Int) else (6 : Int))) := rfl
    rw [k_pN, args2 (x := .int 6) (y := .int ((8 : Int) - d)) rfl (p2_ok (x := .int 8) (y := .int d) rfl rfl (k_sub _ _)), k_bind, e, k_of, hmd]) (oMod_pos hm0)) (k_add _ _)) ?_
  simp only [k_set0, k_sets]
  obtain ⟨v, v1, v8, ev⟩ : ∃ v : Nat, 1 ≤ v ∧ v ≤ 8 ∧ sIf (tOf (p2 oEq (p2 oMod (pN oInt1 [(pCall (F__law_cell C) [(pV 0), (pC (.int 2))])]) (pC (.int 32))) (pC (.int 5))))
      (sAsg (gN 2) (p2 oAdd (pC (.int 5)) (p2 oMod (pN oInt1 [(pCall (F__law_cell C) [(pV 0), (pC (.int 1))])]) (pC (.int 4))))) sNx [.im (.scr ns), .im (.int d), .im (.int (1 + c1 % m)), .no, .no, .no, .no, .no, .no, .no, .no, .no, .no, .no, .no] =
      .nx [.im (.scr ns), .im (.int d), .im (.int v), .no, .no, .no, .no, .no, .no, .no, .no, .no, .no, .no, .no] := by
    have ht : (tOf (p2 oEq (p2 oMod (pN oInt1 [(pCall (F__law_cell C) [(pV 0), (pC (.int 2))])]) (pC (.int 32))) (pC (.int 5)))) [.im (.scr ns), .im (.int d), .im (.int (1 + c1 % m)), .no, .no, .no, .no, .no, .no, .no, .no, .no, .no, .no, .no] = .ok (decide (c2 % 32 = 5)) :=
      tOf_ok (p2_ok (x := .int (c2 % 32)) (y := .int 5) (p2_ok (x := .int c2) (y := .int 32) (pN1_ok (call_ok (args2 (x := .scr ns) (y := .int 2) rfl rfl) e2) rfl) rfl (oMod_pos (by decide))) rfl (oEq_int _ _))
    by_cases q : c2 % 32 = 5
    · refine ⟨(5 + c1 % 4).toNat, by omega, by omega, ?_⟩
      rw [sIf_t (by rw [ht, decide_eq_true q]), k_sAsg, p2_ok (x := .int 5) (y := .int (c1 % 4)) rfl (p2_ok (x := .int c1) (y := .int 4) (pN1_ok (call_ok (args2 (x := .scr ns) (y := .int 1) rfl rfl) e1) rfl) rfl (oMod_pos (by decide))) (k_add _ _), k_opS]
      simp only [k_set0, k_sets]
      rw [show ((5 + c1 % 4).toNat : Int) = 5 + c1 % 4 by omega]
    · refine ⟨(1 + c1 % m).toNat, by omega, by omega, ?_⟩
      rw [sIf_f (by rw [ht, decide_eq_false q]), k_sNx, show ((1 + c1 % m).toNat : Int) = 1 + c1 % m by omega]
  refine seq_nx ev ?_
  clear ev hv0 hv1 hm0 hm8 hmd
  -- the orders
  obtain ⟨p, hp⟩ : ∃ p : Int → List Int, ∀ k : Int, 0 ≤ k → (p k).Perm (intR v) ∧ ∃ c, F__law_cell C [.scr ns, .int (3 + k)] = .ret (.val (.int c)) ∧ F__law_order C [.int c, .int v] = .ret (.fresh ((p k).map .int)) := by
    have : ∀ k : Int, ∃ q : List Int, 0 ≤ k → q.Perm (intR v) ∧ ∃ c, F__law_cell C [.scr ns, .int (3 + k)] = .ret (.val (.int c)) ∧ F__law_order C [.int c, .int v] = .ret (.fresh (q.map .int)) := fun k => by
      by_cases hk : 0 ≤ k
      · obtain ⟨c, hc, ec⟩ := cell_ok C ns (3 + k) (by omega)
        obtain ⟨q, hq, eq⟩ := order_ok C c v hc (by omega)
        exact ⟨q, fun _ => ⟨hq, c, ec, eq⟩⟩
      · exact ⟨[], fun h => absurd h hk⟩
    exact Classical.axiomOfChoice this
  obtain ⟨os, hos⟩ : ∃ os, os = (intR d).map p := ⟨_, rfl⟩
  have G : Good os v d := by
    refine ⟨by rw [hos, List.length_map, intR_len], fun o ho => ?_, d1, d4, v1, v8⟩
    rw [hos] at ho
    obtain ⟨k, hk, rfl⟩ := List.mem_map.mp ho
    exact (hp k (mem_intR.mp hk).1).1
  have G' := G.rev
  refine seq_asg (d := .lst (os.map lI)) (by
    refine pOfF_ok ?_
    rw [hos, List.map_map]
    refine fComp_all D.int (fun k => lI (p k)) (intR d) (by rw [k_iRg]; exact fN1_ok (x := .int d) rfl (oRange1 (by omega))) fun k hk => ⟨[.im (.scr ns), .im (.int d), .im (.int v), .no, .no, .no, .no, .no, .no, .no, .no, .no, .im (.int k), .no, .no], by rw [wipe1]; rfl, ?_⟩
    obtain ⟨_, c, ec, eo⟩ := hp k (mem_intR.mp hk).1
    exact call_ok (r := .fresh ((p k).map .int)) (args2 (x := .int c) (y := .int v) (call_ok (args2 (x := .scr ns) (y := .int (3 + k)) rfl (p2_ok (x := .int 3) (y := .int k) rfl rfl (k_add _ _))) ec) rfl) eo) ?_
  simp only [k_set0, k_sets]
  refine seq_asg (d := .lst ((os.map List.reverse).map lI)) (by
    refine pOfF_ok ?_
    rw [List.map_map]
    refine fComp_all lI (fun o => lI o.reverse) os rfl fun o ho => ⟨[.im (.scr ns), .im (.int d), .im (.int v), .im (.lst (os.map lI)), .no, .no, .no, .no, .no, .no, .no, .no, .no, .im (lI o), .no], by rw [wipe1]; rfl, ?_⟩
    rw [pOfF_ok (k_fRev (xs := o.map .int) rfl)]
    unfold lI
    rw [List.map_reverse]) ?_
  simp only [k_set0, k_sets]
  refine seq_asg (d := .lst (os.map lI)) (by
    refine pOfF_ok ?_
    exact fComp_all lI lI os rfl fun o ho => ⟨[.im (.scr ns), .im (.int d), .im (.int v), .im (.lst (os.map lI)), .im (.lst ((os.map List.reverse).map lI)), .no, .no, .no, .no, .no, .no, .no, .no, .im (lI o), .no], by rw [wipe1]; rfl, pOfF_ok (fN1_ok (x := lI o) rfl rfl)⟩) ?_
  simp only [k_set0, k_sets]
  obtain ⟨g, f, I, eg⟩ : ∃ (g : D) (f : List Int → D), IsG g os f ∧ sIf (tOf (p2 oEq (p2 oMod (pN oInt1 [(pCall (F__law_cell C) [(pV 0), (pC (.int 7))])]) (pC (.int 2))) (pC (.int 1))))
      (sAsg (gN 5) (pN oTupleOf [(pOfF (fComp [13] (gN 13) (iSq (pV 3)) tYes (pN oTupleOf [(pB 13)])))])) sNx [.im (.scr ns), .im (.int d), .im (.int v), .im (.lst (os.map lI)), .im (.lst ((os.map List.reverse).map lI)), .im (.lst (os.map lI)), .no, .no, .no, .no, .no, .no, .no, .no, .no] =
      .nx [.im (.scr ns), .im (.int d), .im (.int v), .im (.lst (os.map lI)), .im (.lst ((os.map List.reverse).map lI)), .im g, .no, .no, .no, .no, .no, .no, .no, .no, .no] := by
    have ht : (tOf (p2 oEq (p2 oMod (pN oInt1 [(pCall (F__law_cell C) [(pV 0), (pC (.int 7))])]) (pC (.int 2))) (pC (.int 1)))) [.im (.scr ns), .im (.int d), .im (.int v), .im (.lst (os.map lI)), .im (.lst ((os.map List.reverse).map lI)), .im (.lst (os.map lI)), .no, .no, .no, .no, .no, .no, .no, .no, .no] = .ok (decide (c7 % 2 = 1)) :=
      tOf_ok (p2_ok (x := .int (c7 % 2)) (y := .int 1) (p2_ok (x := .int c7) (y := .int 2) (pN1_ok (call_ok (args2 (x := .scr ns) (y := .int 7) rfl rfl) e7) rfl) rfl (oMod_pos (by decide))) rfl (oEq_int _ _))
    by_cases q : c7 % 2 = 1
    · refine ⟨.tup (os.map tI), tI, ⟨.inr rfl, .inr rfl⟩, ?_⟩
      have hc := fComp_all (own := [13]) (g := gN 13) (it := iSq (pV 3)) (e := pN oTupleOf [(pB 13)]) (ρ := [.im (.scr ns), .im (.int d), .im (.int v), .im (.lst (os.map lI)), .im (.lst ((os.map List.reverse).map lI)), .im (.lst (os.map lI)), .no, .no, .no, .no, .no, .no, .no, .no, .no]) lI tI os rfl fun o ho => ⟨[.im (.scr ns), .im (.int d), .im (.int v), .im (.lst (os.map lI)), .im (.lst ((os.map List.reverse).map lI)), .im (.lst (os.map lI)), .no, .no, .no, .no, .no, .no, .no, .im (lI o), .no], by rw [wipe1]; rfl, pN1_ok (x := lI o) rfl rfl⟩
      rw [sIf_t (by rw [ht, decide_eq_true q]), k_sAsg, pN1_ok (z := .tup (os.map tI)) (pOfF_ok hc) rfl, k_opS]
      rfl
    · refine ⟨.lst (os.map lI), lI, ⟨.inl rfl, .inl rfl⟩, ?_⟩
      rw [sIf_f (by rw [ht, decide_eq_false q]), k_sNx]
  refine seq_nx eg ?_
  clear eg
  have I' : IsG (.lst ((os.map List.reverse).map lI)) (os.map List.reverse) lI := ⟨.inl rfl, .inl rfl⟩
  refine seq_asg (d := ranksD os v d) (by rw [call_ok (args2 (x := .lst (os.map lI)) (y := .int v) rfl rfl) (ranks_ok C G)]; exact congrArg OP.ok (ranksL os v d)) ?_
  simp only [k_set0, k_sets]
  refine seq_asg (d := .lst ((subs d (intR (v + d))).map tI)) (by
    refine call_ok (r := .fresh ((subs d (intR (v + d))).map tI)) (args2 (y := .int d) (tupRg1 (n := v + d) (p2_ok (x := .int d) (y := .int v) rfl rfl (by rw [k_add, show (d : Int) + v = ((v + d : Nat) : Int) by omega])) (by omega)) rfl) ?_
    exact rooms_ok C 6 d (intR (v + d)) (by omega) (by rw [intR_len]; omega) (by rw [intR_len]; omega) (by omega)) ?_
  simp only [k_set0, k_sets]
  refine seq_asg (d := .lst ((due os v d).map tI)) (pOfF_ok (due_ok C 6 14 7 G rfl (fun _ => rfl) (fun _ => rfl))) ?_
  simp only [k_set0, k_sets]
  generalize hR : ranksD os v d = R
  refine seq_asg (d := .tup [.int d, .int v]) (call_ok (r := .val (.tup [.int d, .int v])) (args1 (x := g) rfl) (check_ok C G I)) ?_
  simp only [k_set0, k_sets]
  refine seq_skip (tOr_f (tNot_t (tOf_ok (p1_ok (x := .tup [.int d, .int v]) rfl rfl))) (tNot_t (tOf_ok (call_ok (args2 (x := tI [(d : Int), v]) (y := tI [(d : Int), v]) rfl (k_nTup (ds := [.int d, .int v]) _ _ (args2 rfl rfl) (by show 2 ≤ line; omega))) (row_ok C (.t _) (.t _) (by show 2 ≤ 100000; omega)))))) ?_
  have hrl : ∀ r ∈ (List.range d).map (fullRow os v), r.length ≤ 100000 := fun r hr => by
    rw [(G.rows.perm r hr).length_eq, intR_len]; omega
  have hrn : ((List.range d).map (fullRow os v)).length ≤ 100000 := by rw [List.length_map, List.length_range]; omega
  refine seq_skip (tNot_t (tOf_ok (call_ok (args2 (x := .lst (((List.range d).map (fullRow os v)).map xI)) (y := .lst (((List.range d).map (fullRow os v)).map tI)) (by
      rw [call_ok (args1 (x := g) rfl) (fullo_ok C G I), List.map_map]; rfl) (by
      refine pOfF_ok ?_
      have hc := fComp_all (own := [12]) (g := gN 12) (it := iRg [(pV 1)]) (e := pN oTupleOf [(pCall (F__law_full C) [(pV 3), (pV 2), (pV 12)])]) (ρ := [.im (.scr ns), .im (.int d), .im (.int v), .im (.lst (os.map lI)), .im (.lst ((os.map List.reverse).map lI)), .im g, .im R, .im (.lst ((subs d (intR (v + d))).map tI)), .im (.lst ((due os v d).map tI)), .im (.tup [.int d, .int v]), .no, .no, .no, .no, .no]) (fun k : Nat => D.int k) (fun k => tI (fullRow os v k)) (List.range d)
        (by rw [k_iRg, fN1_ok (x := .int d) rfl (oRange1 (by omega))]; unfold intR; rw [List.map_map]; rfl) (fun k hk => ⟨[.im (.scr ns), .im (.int d), .im (.int v), .im (.lst (os.map lI)), .im (.lst ((os.map List.reverse).map lI)), .im g, .im R, .im (.lst ((subs d (intR (v + d))).map tI)), .im (.lst ((due os v d).map tI)), .im (.tup [.int d, .int v]), .no, .no, .im (.int k), .no, .no], by rw [wipe1]; rfl,
          pN1_ok (call_ok (args3 (x := .lst (os.map lI)) (y := .int v) (z := .int k) rfl rfl rfl) (full_ok C G (List.mem_range.mp hk))) rfl⟩)
      rw [hc, List.map_map]; rfl)) (rows_ok C (fun r => .inr rfl) (fun r => .t r) hrn hrl)))) ?_
  have hsl : (subs d (intR (v + d))).length ≤ 20736 := Nat.le_trans (subs_len d _ (by rw [intR_len]; omega)) (pow12 d4)
  refine seq_skip (tNot_t (tOf_ok (call_ok (args4 (x := g) (y := R) (z := .lst ((subs d (intR (v + d))).map tI)) (u := .scr ns) rfl rfl rfl rfl) (by rw [← hR]; exact some_ok C G I (fun r hr => (G.room hr).1) hsl)))) ?_
  have hdl : ∀ os', (due os' v d).length ≤ 20736 := fun os' => Nat.le_trans (List.length_filter_le _ _) hsl
  have hdr : ∀ os', ∀ r ∈ due os' v d, r.length ≤ 100000 := fun os' r hr => by
    rw [(G.room (List.mem_filter.mp hr).1).2.1]; omega
  refine seq_asgF (d := (due os v d).map tI) (fcall_ok (args1 (x := g) rfl) (ub_ok C G I)) ?_
  simp only [k_set0, k_sets]
  have hrows : ∀ os', F__law_rows C [.lst ((due os' v d).map tI), .lst ((due os' v d).map tI)] = .ret (.val (.bl true)) := fun os' => rows_ok C (fun r => .inl rfl) (fun r => .t r) (by have := hdl os'; omega) (hdr os')
  refine seq_skip (tNot_t (tOf_ok (callB_ok (args2 (x := .lst ((due os v d).map tI)) (y := .lst ((due os v d).map tI)) rfl rfl) (hrows os) rfl))) ?_
  refine seq_nx (sApp_eq (xs := (due os v d).map tI) (d := .tup []) rfl (k_nTup (ds := []) _ _ (k_args0 _) (Nat.zero_le _)) (by rw [List.length_map]; have := hdl os; omega)) ?_
  simp only [k_set0, k_sets]
  refine seq_asg (d := ranksD (os.map List.reverse) v d) (by rw [call_ok (args2 (x := .lst ((os.map List.reverse).map lI)) (y := .int v) rfl rfl) (ranks_ok C G')]; exact congrArg OP.ok (ranksL _ v d)) ?_
  simp only [k_set0, k_sets]
  refine seq_skip (tNot_t (tOf_ok (call_ok (args2 (call_ok (args1 (x := .lst ((os.map List.reverse).map lI)) rfl) (ub_ok C G' I')) (pOfF_ok (due_ok C 11 14 7 G' rfl (fun _ => rfl) (fun _ => rfl)))) (hrows _)))) ?_
  refine seq_skip (tOr_f (tNot_t (tOf_ok (call_ok (args2 (y := .lst ((due os v d).map tI)) (call_ok (args1 (x := g) rfl) (ub_ok C G I)) rfl) (hrows os)))) (tNot_t (tOf_ok (call_ok (args4 (x := g) (y := .int ((v + d : Nat) : Int)) (z := .int d) (u := .lst ((due os v d).map tI)) rfl (p2_ok (x := .int d) (y := .int v) rfl rfl (by rw [k_add, show (d : Int) + v = ((v + d : Nat) : Int) by omega])) rfl rfl) (lbook_ok C G I))))) ?_
  generalize ranksD (os.map List.reverse) v d = R2
  have f1 : pOfF (fComp [13] (gN 13) (iSq (pV 5)) tYes (pOfF (fN oListOf [(pB 13)]))) [.im (.scr ns), .im (.int d), .im (.int v), .im (.lst (os.map lI)), .im (.lst ((os.map List.reverse).map lI)), .im g, .im R, .im (.lst ((subs d (intR (v + d))).map tI)), .im (.lst ((due os v d).map tI)), .im (.tup [.int d, .int v]), .ml ((due os v d).map tI ++ [.tup []]), .im R2, .no, .no, .no] = .ok (.lst (os.map lI)) :=
    pOfF_ok (fComp_all f lI os (by rw [k_iSq, show pV 5 _ = .ok g from rfl, k_bind, I.seq, k_of]) (fun o ho => ⟨[.im (.scr ns), .im (.int d), .im (.int v), .im (.lst (os.map lI)), .im (.lst ((os.map List.reverse).map lI)), .im g, .im R, .im (.lst ((subs d (intR (v + d))).map tI)), .im (.lst ((due os v d).map tI)), .im (.tup [.int d, .int v]), .ml ((due os v d).map tI ++ [.tup []]), .im R2, .no, .im (f o), .no], by rw [wipe1]; rfl, pOfF_ok (fN1_ok (x := f o) rfl (I.lst o))⟩))
  have f2 : pOfF (fComp [13] (gN 13) (iSq (pV 3)) tYes (pOfF (fRev (pB 13)))) [.im (.scr ns), .im (.int d), .im (.int v), .im (.lst (os.map lI)), .im (.lst ((os.map List.reverse).map lI)), .im g, .im R, .im (.lst ((subs d (intR (v + d))).map tI)), .im (.lst ((due os v d).map tI)), .im (.tup [.int d, .int v]), .ml ((due os v d).map tI ++ [.tup []]), .im R2, .no, .no, .no] = .ok (.lst ((os.map List.reverse).map lI)) := by
    refine pOfF_ok (Eq.trans (b := .ok (os.map fun o => lI o.reverse)) ?_ (by rw [List.map_map]; rfl))
    refine fComp_all lI (fun o => lI o.reverse) os rfl fun o ho => ⟨[.im (.scr ns), .im (.int d), .im (.int v), .im (.lst (os.map lI)), .im (.lst ((os.map List.reverse).map lI)), .im g, .im R, .im (.lst ((subs d (intR (v + d))).map tI)), .im (.lst ((due os v d).map tI)), .im (.tup [.int d, .int v]), .ml ((due os v d).map tI ++ [.tup []]), .im R2, .no, .im (lI o), .no], by rw [wipe1]; rfl, ?_⟩
    rw [pOfF_ok (k_fRev (xs := o.map .int) rfl)]
    unfold lI
    rw [List.map_reverse]
  rw [k_sRet, vAnd_t (p2_ok (x := .lst (os.map lI)) (y := .lst (os.map lI)) f1 rfl (by rw [lists_eq, decide_eq_true rfl])), p2_ok (x := .lst ((os.map List.reverse).map lI)) (y := .lst ((os.map List.reverse).map lI)) (z := .bl true) rfl f2 (by rw [lists_eq, decide_eq_true rfl]), k_opS]
  rfl
end K40
end
section
set_option maxHeartbeats 4000000
/-! the program does what the functions do: printed by gen.py -/
namespace K40
open PySem PySem.Spec L2 Pu
open PyProof.Rows hiding St
def top (i : Nat) : Stmt := PySem.Challenge.pw_neveralone_k40_unbeaten_by_definition.main.body.getD i (.Pass ⟨0, 0, 0, 0⟩)
abbrev s__law_cell : Stmt := top 27
abbrev s__law_order : Stmt := top 28
abbrev s__law_full : Stmt := top 29
abbrev s__law_ranks : Stmt := top 30
abbrev s__law_rooms : Stmt := top 31
abbrev s__law_beaters : Stmt := top 32
abbrev s_check_orders : Stmt := top 16
abbrev s__law_row : Stmt := top 33
abbrev s__law_rows : Stmt := top 34
abbrev s_full_orders : Stmt := top 17
abbrev s_first_of : Stmt := top 19
abbrev s_places_above : Stmt := top 20
abbrev s_above_in_all : Stmt := top 21
abbrev s_beaters : Stmt := top 23
abbrev s_least_place : Stmt := top 22
abbrev s__law_one_room : Stmt := top 35
abbrev s__law_by_bits : Stmt := top 36
abbrev s__law_some_rooms : Stmt := top 37
abbrev s_subsets : Stmt := top 8
abbrev s_unbeaten_rooms : Stmt := top 24
abbrev s_room_fault : Stmt := top 10
abbrev s_Book___init__ : Stmt := inClass (top 12) 1
abbrev s_own_places : Stmt := top 18
abbrev s_unbeaten_book : Stmt := top 25
abbrev s__law_book : Stmt := top 38
abbrev s_law : Stmt := top 39
structure Txt (K : PySem.W.Frag) (mg : Str → Option Value) where
  a__law_cell : Addr
  f__law_cell : FuncData
  F__law_cell : Fun K "_law_cell" "_law_cell" s__law_cell a__law_cell f__law_cell
  y__law_cell : Binds K f__law_cell ["_law_script", "_law_k"] []
  m__law_cell : mg "_law_cell" = some (.ref a__law_cell)
  k__law_cell : PySem.W.keepIn K (.ref a__law_cell) = true
  a__law_order : Addr
  f__law_order : FuncData
  F__law_order : Fun K "_law_order" "_law_order" s__law_order a__law_order f__law_order
  y__law_order : Binds K f__law_order ["_law_cell_here", "_law_v"] []
  m__law_order : mg "_law_order" = some (.ref a__law_order)
  k__law_order : PySem.W.keepIn K (.ref a__law_order) = true
  a__law_full : Addr
  f__law_full : FuncData
  F__law_full : Fun K "_law_full" "_law_full" s__law_full a__law_full f__law_full
  y__law_full : Binds K f__law_full ["_law_orders", "_law_v", "_law_k"] []
  m__law_full : mg "_law_full" = some (.ref a__law_full)
  k__law_full : PySem.W.keepIn K (.ref a__law_full) = true
  a__law_ranks : Addr
  f__law_ranks : FuncData
  F__law_ranks : Fun K "_law_ranks" "_law_ranks" s__law_ranks a__law_ranks f__law_ranks
  y__law_ranks : Binds K f__law_ranks ["_law_orders", "_law_v"] []
  m__law_ranks : mg "_law_ranks" = some (.ref a__law_ranks)
  k__law_ranks : PySem.W.keepIn K (.ref a__law_ranks) = true
  a__law_rooms : Addr
  f__law_rooms : FuncData
  F__law_rooms : Fun K "_law_rooms" "_law_rooms" s__law_rooms a__law_rooms f__law_rooms
  y__law_rooms : Binds K f__law_rooms ["_law_items", "_law_size"] []
  m__law_rooms : mg "_law_rooms" = some (.ref a__law_rooms)
  k__law_rooms : PySem.W.keepIn K (.ref a__law_rooms) = true
  a__law_beaters : Addr
  f__law_beaters : FuncData
  F__law_beaters : Fun K "_law_beaters" "_law_beaters" s__law_beaters a__law_beaters f__law_beaters
  y__law_beaters : Binds K f__law_beaters ["_law_ranks_here", "_law_room"] []
  m__law_beaters : mg "_law_beaters" = some (.ref a__law_beaters)
  k__law_beaters : PySem.W.keepIn K (.ref a__law_beaters) = true
  a_check_orders : Addr
  f_check_orders : FuncData
  F_check_orders : Fun K "check_orders" "check_orders" s_check_orders a_check_orders f_check_orders
  y_check_orders : Binds K f_check_orders ["orders"] []
  m_check_orders : mg "check_orders" = some (.ref a_check_orders)
  k_check_orders : PySem.W.keepIn K (.ref a_check_orders) = true
  a__law_row : Addr
  f__law_row : FuncData
  F__law_row : Fun K "_law_row" "_law_row" s__law_row a__law_row f__law_row
  y__law_row : Binds K f__law_row ["_law_actual", "_law_due"] []
  m__law_row : mg "_law_row" = some (.ref a__law_row)
  k__law_row : PySem.W.keepIn K (.ref a__law_row) = true
  a__law_rows : Addr
  f__law_rows : FuncData
  F__law_rows : Fun K "_law_rows" "_law_rows" s__law_rows a__law_rows f__law_rows
  y__law_rows : Binds K f__law_rows ["_law_actual", "_law_due"] []
  m__law_rows : mg "_law_rows" = some (.ref a__law_rows)
  k__law_rows : PySem.W.keepIn K (.ref a__law_rows) = true
  a_full_orders : Addr
  f_full_orders : FuncData
  F_full_orders : Fun K "full_orders" "full_orders" s_full_orders a_full_orders f_full_orders
  y_full_orders : Binds K f_full_orders ["orders"] []
  m_full_orders : mg "full_orders" = some (.ref a_full_orders)
  k_full_orders : PySem.W.keepIn K (.ref a_full_orders) = true
  a_first_of : Addr
  f_first_of : FuncData
  F_first_of : Fun K "first_of" "first_of" s_first_of a_first_of f_first_of
  y_first_of : Binds K f_first_of ["row", "room"] []
  m_first_of : mg "first_of" = some (.ref a_first_of)
  k_first_of : PySem.W.keepIn K (.ref a_first_of) = true
  a_places_above : Addr
  f_places_above : FuncData
  F_places_above : Fun K "places_above" "places_above" s_places_above a_places_above f_places_above
  y_places_above : Binds K f_places_above ["row", "room"] []
  m_places_above : mg "places_above" = some (.ref a_places_above)
  k_places_above : PySem.W.keepIn K (.ref a_places_above) = true
  a_above_in_all : Addr
  f_above_in_all : FuncData
  F_above_in_all : Fun K "above_in_all" "above_in_all" s_above_in_all a_above_in_all f_above_in_all
  y_above_in_all : Binds K f_above_in_all ["rows", "room"] []
  m_above_in_all : mg "above_in_all" = some (.ref a_above_in_all)
  k_above_in_all : PySem.W.keepIn K (.ref a_above_in_all) = true
  a_beaters : Addr
  f_beaters : FuncData
  F_beaters : Fun K "beaters" "beaters" s_beaters a_beaters f_beaters
  y_beaters : Binds K f_beaters ["orders", "room"] []
  m_beaters : mg "beaters" = some (.ref a_beaters)
  k_beaters : PySem.W.keepIn K (.ref a_beaters) = true
  a_least_place : Addr
  f_least_place : FuncData
  F_least_place : Fun K "least_place" "least_place" s_least_place a_least_place f_least_place
  y_least_place : Binds K f_least_place ["orders", "at", "room"] []
  m_least_place : mg "least_place" = some (.ref a_least_place)
  k_least_place : PySem.W.keepIn K (.ref a_least_place) = true
  a__law_one_room : Addr
  f__law_one_room : FuncData
  F__law_one_room : Fun K "_law_one_room" "_law_one_room" s__law_one_room a__law_one_room f__law_one_room
  y__law_one_room : Binds K f__law_one_room ["_law_given", "_law_ranks_here", "_law_room"] []
  m__law_one_room : mg "_law_one_room" = some (.ref a__law_one_room)
  k__law_one_room : PySem.W.keepIn K (.ref a__law_one_room) = true
  a__law_by_bits : Addr
  f__law_by_bits : FuncData
  F__law_by_bits : Fun K "_law_by_bits" "_law_by_bits" s__law_by_bits a__law_by_bits f__law_by_bits
  y__law_by_bits : Binds K f__law_by_bits ["_law_n", "_law_cell_here"] []
  m__law_by_bits : mg "_law_by_bits" = some (.ref a__law_by_bits)
  k__law_by_bits : PySem.W.keepIn K (.ref a__law_by_bits) = true
  a__law_some_rooms : Addr
  f__law_some_rooms : FuncData
  F__law_some_rooms : Fun K "_law_some_rooms" "_law_some_rooms" s__law_some_rooms a__law_some_rooms f__law_some_rooms
  y__law_some_rooms : Binds K f__law_some_rooms ["_law_given", "_law_ranks_here", "_law_rooms_here", "_law_script"] []
  m__law_some_rooms : mg "_law_some_rooms" = some (.ref a__law_some_rooms)
  k__law_some_rooms : PySem.W.keepIn K (.ref a__law_some_rooms) = true
  a_subsets : Addr
  f_subsets : FuncData
  F_subsets : Fun K "subsets" "subsets" s_subsets a_subsets f_subsets
  y_subsets : Binds K f_subsets ["items", "size"] []
  m_subsets : mg "subsets" = some (.ref a_subsets)
  k_subsets : PySem.W.keepIn K (.ref a_subsets) = true
  a_unbeaten_rooms : Addr
  f_unbeaten_rooms : FuncData
  F_unbeaten_rooms : Fun K "unbeaten_rooms" "unbeaten_rooms" s_unbeaten_rooms a_unbeaten_rooms f_unbeaten_rooms
  y_unbeaten_rooms : Binds K f_unbeaten_rooms ["orders"] []
  m_unbeaten_rooms : mg "unbeaten_rooms" = some (.ref a_unbeaten_rooms)
  k_unbeaten_rooms : PySem.W.keepIn K (.ref a_unbeaten_rooms) = true
  a_room_fault : Addr
  f_room_fault : FuncData
  F_room_fault : Fun K "room_fault" "room_fault" s_room_fault a_room_fault f_room_fault
  y_room_fault : Binds K f_room_fault ["places", "size", "room"] []
  m_room_fault : mg "room_fault" = some (.ref a_room_fault)
  k_room_fault : PySem.W.keepIn K (.ref a_room_fault) = true
  a_Book___init__ : Addr
  f_Book___init__ : FuncData
  F_Book___init__ : Fun K "__init__" "Book.__init__" s_Book___init__ a_Book___init__ f_Book___init__
  y_Book___init__ : Binds K f_Book___init__ ["self", "places", "size", "rooms"] []
  a_own_places : Addr
  f_own_places : FuncData
  F_own_places : Fun K "own_places" "own_places" s_own_places a_own_places f_own_places
  y_own_places : Binds K f_own_places ["orders"] []
  m_own_places : mg "own_places" = some (.ref a_own_places)
  k_own_places : PySem.W.keepIn K (.ref a_own_places) = true
  a_unbeaten_book : Addr
  f_unbeaten_book : FuncData
  F_unbeaten_book : Fun K "unbeaten_book" "unbeaten_book" s_unbeaten_book a_unbeaten_book f_unbeaten_book
  y_unbeaten_book : Binds K f_unbeaten_book ["orders"] []
  m_unbeaten_book : mg "unbeaten_book" = some (.ref a_unbeaten_book)
  k_unbeaten_book : PySem.W.keepIn K (.ref a_unbeaten_book) = true
  a__law_book : Addr
  f__law_book : FuncData
  F__law_book : Fun K "_law_book" "_law_book" s__law_book a__law_book f__law_book
  y__law_book : Binds K f__law_book ["_law_given", "_law_n", "_law_d", "_law_due"] []
  m__law_book : mg "_law_book" = some (.ref a__law_book)
  k__law_book : PySem.W.keepIn K (.ref a__law_book) = true
  a_law : Addr
  f_law : FuncData
  F_law : Fun K "law" "law" s_law a_law f_law
  y_law : Binds K f_law ["_law_script"] []
  m_law : mg "law" = some (.ref a_law)
  k_law : PySem.W.keepIn K (.ref a_law) = true
  b_abs : mg "abs" = none
  b_bool : mg "bool" = none
  b_enumerate : mg "enumerate" = none
  b_int : mg "int" = none
  b_isinstance : mg "isinstance" = none
  b_len : mg "len" = none
  b_list : mg "list" = none
  b_min : mg "min" = none
  b_range : mg "range" = none
  b_set : mg "set" = none
  b_sorted : mg "sorted" = none
  b_tuple : mg "tuple" = none
  t_MOST_ORDERS : Tok
  k_MOST_ORDERS : mg "MOST_ORDERS" = some (.int 4 t_MOST_ORDERS)
  t_MOST_THINGS : Tok
  k_MOST_THINGS : mg "MOST_THINGS" = some (.int 8 t_MOST_THINGS)
  CBook : Addr
  m_Book : mg "Book" = some (.ref CBook)
  cl_Book : Cls K CBook
  M_Book : Mk K CBook a_Book___init__
  n_Book_places : NoAttr K CBook "places"
  n_Book_rooms : NoAttr K CBook "rooms"
  n_Book_size : NoAttr K CBook "size"
  mc_Book : Value
  cr_Book : ClX.CRead K CBook mc_Book
  u_Book_MOST_PLACES : Value
  c_Book_MOST_PLACES : ClX.CVal K CBook mc_Book "MOST_PLACES" (.int 12) u_Book_MOST_PLACES
  o_Book : OfC K CBook
section
variable {P : Program} {w : World} {K : PySem.W.Frag} {mg : Str → Option Value} {base : Heap}
theorem sc__law_cell : FnScope ["_law_script", "_law_k", "_law_cell_here"] ["_law_script", "_law_k"] (defScope s__law_cell) := ⟨rfl, rfl, rfl, by decide +kernel, rfl, by decide +kernel, by decide +kernel⟩
theorem d__law_cell (T : Txt K mg) : FnOk P w K mg base (L2.CX P w) 1 T.a__law_cell T.f__law_cell ["_law_script", "_law_k"] (spD K 2 (F__law_cell T.CBook)) :=
  fn_ok (N := ["_law_script", "_law_k", "_law_cell_here"]) (g := g__law_cell T.CBook) T.F__law_cell sc__law_cell (by decide) fun cdv A outer s H E hr =>
  (dss_cons (ds_set 2 (dp_op op_add v2_add ((dp_op op_mul v2_mul (dp_int).b (db_v 1))).b (dp_int).b) sc__law_cell.nd)
  (dss_cons (ds_if (dt_cmp op_lt v2_lt (db_v 1) ((dp_bi call_len vn_len T.b_len PySem.boot_len (dba_cons (db_v 0) dba_nil))).b)
  (dss_cons (ds_set 2 (dp_bi call_abs vn_abs T.b_abs (by decide +kernel) (dba_cons ((dp_ix (db_v 0) (db_v 1))).b dba_nil)) sc__law_cell.nd)
  (dss_one (ds_if (dt_cmp op_ge v2_ge (db_v 2) ((dp_op op_pow v2_pow (dp_int).b (dp_int).b)).b)
  (dss_one (ds_ret (dp_op op_sub v2_sub (db_v 2) ((dp_op op_pow v2_pow (dp_int).b (dp_int).b)).b)))
  dss_nil)))
  (dss_one (ds_if (dt_cmp op_gt v2_gt ((dp_bi call_len vn_len T.b_len PySem.boot_len (dba_cons (db_v 0) dba_nil))).b (dp_int).b)
  (dss_one (ds_set 2 (dp_op op_add v2_add ((dp_bi call_abs vn_abs T.b_abs (by decide +kernel) (dba_cons ((dp_ix (db_v 0) ((dp_op op_mod v2_mod ((dp_ty call_int1 vn_int1 T.b_int (by decide +kernel) (dba_cons (db_v 1) dba_nil))).b ((dp_bi call_len vn_len T.b_len PySem.boot_len (dba_cons (db_v 0) dba_nil))).b)).b)).b dba_nil))).b ((dp_op op_mul v2_mul (dp_int).b (db_v 1))).b) sc__law_cell.nd))
  dss_nil)))
  (dss_cons (ds_set 2 (dp_op op_mod v2_mod ((dp_ty call_int1 vn_int1 T.b_int (by decide +kernel) (dba_cons ((dp_op op_add v2_add ((dp_op op_add v2_add ((dp_op op_mul v2_mul (db_v 2) (dp_int).b)).b ((dp_op op_mul v2_mul (dp_int).b (db_v 1))).b)).b (dp_int).b)).b dba_nil))).b (dp_int).b) sc__law_cell.nd)
  (dss_one (ds_ret (dp_op op_fdiv v2_div ((dp_op op_mod v2_mod ((dp_ty call_int1 vn_int1 T.b_int (by decide +kernel) (dba_cons ((dp_op op_mul v2_mul ((dp_op op_add v2_add ((dp_op op_add v2_add ((dp_op op_mul v2_mul (db_v 2) (db_v 2))).b ((dp_op op_mul v2_mul (dp_int).b (db_v 2))).b)).b (db_v 1))).b (dp_int).b)).b dba_nil))).b (dp_int).b)).b (dp_int).b))))))
theorem sc__law_order : FnScope ["_law_cell_here", "_law_v", "_law_left", "_law_row_here", "_law_k", "_law_size"] ["_law_cell_here", "_law_v"] (defScope s__law_order) := ⟨rfl, rfl, rfl, by decide +kernel, rfl, by decide +kernel, by decide +kernel⟩
theorem d__law_order (T : Txt K mg) : FnOk P w K mg base (L2.CX P w) 1 T.a__law_order T.f__law_order ["_law_cell_here", "_law_v"] (spD K 2 (F__law_order T.CBook)) :=
  fn_ok (N := ["_law_cell_here", "_law_v", "_law_left", "_law_row_here", "_law_k", "_law_size"]) (g := g__law_order T.CBook) T.F__law_order sc__law_order (by decide) fun cdv A outer s H E hr =>
  (dss_cons (ds_setF 2 (df_listRg1 rfl T.b_list T.b_range (dp_v 1)) sc__law_order.nd)
  (dss_cons (ds_setF 3 (df_lst da_nil) sc__law_order.nd)
  (dss_cons (ds_for (passes_of rfl) rfl (di_range1 T.b_range (da_cons (dp_v 1) da_nil)) (dg_n 4 sc__law_order.nd)
  (dss_cons (ds_set 5 (dp_op op_sub v2_sub (db_v 1) (db_v 4)) sc__law_order.nd)
  (dss_cons (ds_appE 3 (de_popAt 2 (dp_op op_mod v2_mod ((dp_ty call_int1 vn_int1 T.b_int (by decide +kernel) (dba_cons (db_v 0) dba_nil))).b (db_v 5))))
  (dss_one (ds_set 0 (dp_op op_fdiv v2_div (db_v 0) (db_v 5)) sc__law_order.nd)))))
  (dss_one (ds_retM 3)))))
theorem sc__law_full : FnScope ["_law_orders", "_law_v", "_law_k", "_law_j"] ["_law_orders", "_law_v", "_law_k"] (defScope s__law_full) := ⟨rfl, rfl, rfl, by decide +kernel, rfl, by decide +kernel, by decide +kernel⟩
theorem d__law_full (T : Txt K mg) : FnOk P w K mg base (L2.CX P w) 1 T.a__law_full T.f__law_full ["_law_orders", "_law_v", "_law_k"] (spD K 3 (F__law_full T.CBook)) :=
  fn_ok (N := ["_law_orders", "_law_v", "_law_k", "_law_j"]) (g := g__law_full T.CBook) T.F__law_full sc__law_full (by decide) fun cdv A outer s H E hr =>
  (dss_one (ds_retF (df_cat (((df_cat (((df_lst (da_cons (dp_op op_add v2_add (db_v 1) (db_v 2)) da_nil))).p).b ((dp_ix (db_v 0) (db_v 2))).b)).p).b (((df_comp (own := [("_law_j", 3)]) rfl sc__law_full.nd (di_range1 T.b_range (da_cons (dp_bi call_len vn_len T.b_len PySem.boot_len (dba_cons (db_v 0) dba_nil)) da_nil)) (blkOk_by (by kernel_rfl)) (cg_n 3 (by decide) fun s H C cl fp => pg_name sc__law_full.nd rfl (by first | exact Or.inl rfl | exact Or.inr rfl)) (ct_if fun s H C cl fp => (dt_cmp (op_neD (U hr)) v2_ne (db_v 3) (db_v 2))) (fun s H C cl fp => (dp_op op_add v2_add (db_v 1) (db_v 3))))).p).b)))
theorem sc__law_ranks : FnScope ["_law_orders", "_law_v", "_law_tables", "_law_k", "_law_row_here", "_law_p"] ["_law_orders", "_law_v"] (defScope s__law_ranks) := ⟨rfl, rfl, rfl, by decide +kernel, rfl, by decide +kernel, by decide +kernel⟩
theorem d__law_ranks (T : Txt K mg) : FnOk P w K mg base (L2.CX P w) 2 T.a__law_ranks T.f__law_ranks ["_law_orders", "_law_v"] (spD K 2 (F__law_ranks T.CBook)) :=
  fn_ok (N := ["_law_orders", "_law_v", "_law_tables", "_law_k", "_law_row_here", "_law_p"]) (g := g__law_ranks T.CBook) T.F__law_ranks sc__law_ranks (by decide) fun cdv A outer s H E hr =>
  (dss_cons (ds_setF 2 (df_lst da_nil) sc__law_ranks.nd)
  (dss_cons (ds_for (passes_of rfl) rfl (di_range1 T.b_range (da_cons (dp_bi call_len vn_len T.b_len PySem.boot_len (dba_cons (db_v 0) dba_nil)) da_nil)) (dg_n 3 sc__law_ranks.nd)
  (dss_cons (ds_set 4 (dp_call (d__law_full T) (hr.mono (by decide)) T.m__law_full T.k__law_full T.y__law_full (takes_of rfl rfl rfl rfl) (da_cons (dp_v 0) (da_cons (dp_v 1) (da_cons (dp_v 3) da_nil))) (fun _ _ h => pArgs_len h)) sc__law_ranks.nd)
  (dss_one (ds_app 2 ((df_comp (own := [("_law_p", 5)]) rfl sc__law_ranks.nd (di_range1 T.b_range (da_cons (dp_bi call_len vn_len T.b_len PySem.boot_len (dba_cons (db_v 4) dba_nil)) da_nil)) (blkOk_by (by kernel_rfl)) (cg_n 5 (by decide) fun s H C cl fp => pg_name sc__law_ranks.nd rfl (by first | exact Or.inl rfl | exact Or.inr rfl)) ct_no (fun s H C cl fp => (dp_idxL (db_v 4) (dp_v 5))))).p))))
  (dss_one (ds_retM 2))))
theorem sc__law_rooms : FnScope ["_law_items", "_law_size", "_law_found", "_law_k", "_law_rest"] ["_law_items", "_law_size"] (defScope s__law_rooms) := ⟨rfl, rfl, rfl, by decide +kernel, rfl, by decide +kernel, by decide +kernel⟩
theorem d__law_rooms (T : Txt K mg) : ∀ n : Nat, FnOk P w K mg base (L2.CX P w) (0 + n + 1) T.a__law_rooms T.f__law_rooms ["_law_items", "_law_size"] (spD K 2 (F__law_rooms T.CBook n))
  | 0 => fn_ok (N := ["_law_items", "_law_size", "_law_found", "_law_k", "_law_rest"]) (g := sNo) T.F__law_rooms sc__law_rooms (by decide) fun cdv A outer s H E hr => dss_no
  | n + 1 => by
    have ih := d__law_rooms T n
    exact fn_ok (N := ["_law_items", "_law_size", "_law_found", "_law_k", "_law_rest"]) (g := g__law_rooms T.CBook (F__law_rooms T.CBook n)) T.F__law_rooms sc__law_rooms (by decide) fun cdv A outer s H E hr =>
  (dss_cons (ds_if (dt_cmp (op_eqD (U hr)) v2_eq (db_v 1) (dp_int).b)
  (dss_one (ds_retF (df_lst (da_cons (dp_tup da_nil) da_nil))))
  dss_nil)
  (dss_cons (ds_setF 2 (df_lst da_nil) sc__law_rooms.nd)
  (dss_cons (ds_for (passes_of rfl) rfl (di_range1 T.b_range (da_cons (dp_op op_add v2_add ((dp_op op_sub v2_sub ((dp_bi call_len vn_len T.b_len PySem.boot_len (dba_cons (db_v 0) dba_nil))).b (db_v 1))).b (dp_int).b) da_nil)) (dg_n 3 sc__law_rooms.nd)
  (dss_one (ds_for (passes_of rfl) rfl (di_seq (dp_call ih hr T.m__law_rooms T.k__law_rooms T.y__law_rooms (takes_of rfl rfl rfl rfl) (da_cons (dp_sl (db_v 0) (do_so (dp_op op_add v2_add (db_v 3) (dp_int).b)) do_no) (da_cons (dp_op op_sub v2_sub (db_v 1) (dp_int).b) da_nil)) (fun _ _ h => pArgs_len h))) (dg_n 4 sc__law_rooms.nd)
  (dss_one (ds_app 2 (dp_op op_catA v2_catT ((dp_tup (da_cons (dp_ix (db_v 0) (db_v 3)) da_nil))).b (db_v 4)))))))
  (dss_one (ds_retM 2)))))
theorem sc__law_beaters : FnScope ["_law_ranks_here", "_law_room", "_law_lows", "_law_found", "_law_u", "_law_above", "_law_table", "_law_p", "_law_k"] ["_law_ranks_here", "_law_room"] (defScope s__law_beaters) := ⟨rfl, rfl, rfl, by decide +kernel, rfl, by decide +kernel, by decide +kernel⟩
theorem d__law_beaters (T : Txt K mg) : FnOk P w K mg base (L2.CX P w) 1 T.a__law_beaters T.f__law_beaters ["_law_ranks_here", "_law_room"] (spD K 2 (F__law_beaters T.CBook)) :=
  fn_ok (N := ["_law_ranks_here", "_law_room", "_law_lows", "_law_found", "_law_u", "_law_above", "_law_table", "_law_p", "_law_k"]) (g := g__law_beaters T.CBook) T.F__law_beaters sc__law_beaters (by decide) fun cdv A outer s H E hr =>
  (dss_cons (ds_set 2 ((df_comp (own := [("_law_table", 6)]) rfl sc__law_beaters.nd (di_seq (dp_v 0)) (blkOk_by (by kernel_rfl)) (cg_n 6 (by decide) fun s H C cl fp => pg_name sc__law_beaters.nd rfl (by first | exact Or.inl rfl | exact Or.inr rfl)) ct_no (fun s H C cl fp => (dp_bi (cr_min rfl) vn_minL T.b_min (by decide +kernel) (dba_cons (((df_comp (own := [("_law_p", 7)]) rfl sc__law_beaters.nd (di_seq (dp_v 1)) (blkOk_by (by kernel_rfl)) (cg_n 7 (by decide) fun s H C cl fp => pg_name sc__law_beaters.nd rfl (by first | exact Or.inl rfl | exact Or.inr rfl)) ct_no (fun s H C cl fp => (dp_ix (db_v 6) (db_v 7))))).p).b dba_nil))))).p sc__law_beaters.nd)
  (dss_cons (ds_setF 3 (df_lst da_nil) sc__law_beaters.nd)
  (dss_cons (ds_for (passes_of rfl) rfl (di_range1 T.b_range (da_cons (dp_bi call_len vn_len T.b_len PySem.boot_len (dba_cons ((dp_ix (db_v 0) (dp_int).b)).b dba_nil)) da_nil)) (dg_n 4 sc__law_beaters.nd)
  (dss_cons (ds_setLcP 5 (own := [("_law_k", 8)]) rfl sc__law_beaters.nd (di_range1 T.b_range (da_cons (dp_bi call_len vn_len T.b_len PySem.boot_len (dba_cons (db_v 0) dba_nil)) da_nil)) (blkOk_by (by kernel_rfl)) (cg_n 8 (by decide) fun s H C cl fp => pg_name sc__law_beaters.nd rfl (by first | exact Or.inl rfl | exact Or.inr rfl)) (ct_if fun s H C cl fp => (dt_cmp op_gt v2_gt ((dp_ix ((dp_ix (db_v 0) (db_v 8))).b (db_v 4))).b ((dp_ix (db_v 2) (db_v 8))).b)) (fun s H C cl fp => (dp_v 8)))
  (dss_one (ds_if (dt_cmp (op_eqD (U hr)) v2_eq ((dp_bi call_len vn_len T.b_len PySem.boot_len (dba_cons (db_v 5) dba_nil))).b ((dp_bi call_len vn_len T.b_len PySem.boot_len (dba_cons (db_v 0) dba_nil))).b)
  (dss_one (ds_app 3 (dp_v 4)))
  dss_nil))))
  (dss_one (ds_retM 3)))))
theorem sc_check_orders : FnScope ["orders", "things", "at", "order"] ["orders"] (defScope s_check_orders) := ⟨rfl, rfl, rfl, by decide +kernel, rfl, by decide +kernel, by decide +kernel⟩
theorem d_check_orders (T : Txt K mg) : FnOk P w K mg base (L2.CX P w) 1 T.a_check_orders T.f_check_orders ["orders"] (spD K 1 (F_check_orders T.CBook)) :=
  fn_ok (N := ["orders", "things", "at", "order"]) (g := g_check_orders T.CBook) T.F_check_orders sc_check_orders (by decide) fun cdv A outer s H E hr =>
  (dss_cons (ds_if (dt_not (dt_chain op_le v2_le op_le v2_le (dp_int).b ((dp_bi call_len vn_len T.b_len PySem.boot_len (dba_cons (db_v 0) dba_nil))).b ((dp_globI T.k_MOST_ORDERS)).b))
  (dss_one ds_no)
  dss_nil)
  (dss_cons (ds_set 1 (dp_bi call_len vn_len T.b_len PySem.boot_len (dba_cons ((dp_ix (db_v 0) (dp_int).b)).b dba_nil)) sc_check_orders.nd)
  (dss_cons (ds_if (dt_not (dt_chain op_le v2_le op_le v2_le (dp_int).b (db_v 1) ((dp_globI T.k_MOST_THINGS)).b))
  (dss_one ds_no)
  dss_nil)
  (dss_cons (ds_for (passes_of rfl) rfl (di_enum T.b_enumerate (dp_v 0)) (dg_t rfl (nms_cons sc_check_orders.nd (nms_cons sc_check_orders.nd nms_nil)))
  (dss_one (ds_if (dt_cmp (op_neD (U hr)) v2_ne (((df_bi cr_sort vf_sorted T.b_sorted (by decide +kernel) (dba_cons (db_v 3) dba_nil))).p).b (((df_listRg1 rfl T.b_list T.b_range (dp_v 1))).p).b)
  (dss_one ds_no)
  dss_nil)))
  (dss_one (ds_ret (dp_tup (da_cons (dp_bi call_len vn_len T.b_len PySem.boot_len (dba_cons (db_v 0) dba_nil)) (da_cons (dp_v 1) da_nil)))))))))
theorem sc__law_row : FnScope ["_law_actual", "_law_due", "_law_k"] ["_law_actual", "_law_due"] (defScope s__law_row) := ⟨rfl, rfl, rfl, by decide +kernel, rfl, by decide +kernel, by decide +kernel⟩
theorem d__law_row (T : Txt K mg) : FnOk P w K mg base (L2.CX P w) 1 T.a__law_row T.f__law_row ["_law_actual", "_law_due"] (spD K 2 (F__law_row T.CBook)) :=
  fn_ok (N := ["_law_actual", "_law_due", "_law_k"]) (g := g__law_row T.CBook) T.F__law_row sc__law_row (by decide) fun cdv A outer s H E hr =>
  (dss_cons (ds_if (dt_cmp (op_neD (U hr)) v2_ne ((dp_bi call_len vn_len T.b_len PySem.boot_len (dba_cons (db_v 0) dba_nil))).b ((dp_bi call_len vn_len T.b_len PySem.boot_len (dba_cons (db_v 1) dba_nil))).b)
  (dss_one (ds_ret dp_bl))
  dss_nil)
  (dss_cons (ds_for (passes_of rfl) rfl (di_range1 T.b_range (da_cons (dp_bi call_len vn_len T.b_len PySem.boot_len (dba_cons (db_v 1) dba_nil)) da_nil)) (dg_n 2 sc__law_row.nd)
  (dss_one (ds_if ((dw_or (dt_not (dt_v (dp_isi .int T.b_isinstance rfl T.b_int ((dp_ix (db_v 0) (db_v 2))).b))) (dw_or (dt_v (dp_isi .bool T.b_isinstance rfl T.b_bool ((dp_ix (db_v 0) (db_v 2))).b)) (dw_or1 (dt_cmp (op_neD (U hr)) v2_ne ((dp_ix (db_v 0) (db_v 2))).b ((dp_ix (db_v 1) (db_v 2))).b))))).t
  (dss_one (ds_ret dp_bl))
  dss_nil)))
  (dss_one (ds_ret dp_bl))))
theorem sc__law_rows : FnScope ["_law_actual", "_law_due", "_law_k"] ["_law_actual", "_law_due"] (defScope s__law_rows) := ⟨rfl, rfl, rfl, by decide +kernel, rfl, by decide +kernel, by decide +kernel⟩
theorem d__law_rows (T : Txt K mg) : FnOk P w K mg base (L2.CX P w) 2 T.a__law_rows T.f__law_rows ["_law_actual", "_law_due"] (spD K 2 (F__law_rows T.CBook)) :=
  fn_ok (N := ["_law_actual", "_law_due", "_law_k"]) (g := g__law_rows T.CBook) T.F__law_rows sc__law_rows (by decide) fun cdv A outer s H E hr =>
  (dss_cons (ds_if ((dw_or (dt_not (dt_v (dp_isi .list T.b_isinstance rfl T.b_list (db_v 0)))) (dw_or1 (dt_cmp (op_neD (U hr)) v2_ne ((dp_bi call_len vn_len T.b_len PySem.boot_len (dba_cons (db_v 0) dba_nil))).b ((dp_bi call_len vn_len T.b_len PySem.boot_len (dba_cons (db_v 1) dba_nil))).b)))).t
  (dss_one (ds_ret dp_bl))
  dss_nil)
  (dss_cons (ds_for (passes_of rfl) rfl (di_range1 T.b_range (da_cons (dp_bi call_len vn_len T.b_len PySem.boot_len (dba_cons (db_v 1) dba_nil)) da_nil)) (dg_n 2 sc__law_rows.nd)
  (dss_one (ds_if ((dw_or (dt_not (dt_v (dp_isi .tuple T.b_isinstance rfl T.b_tuple ((dp_ix (db_v 0) (db_v 2))).b))) (dw_or1 (dt_not (dt_v (dp_call (d__law_row T) (hr.mono (by decide)) T.m__law_row T.k__law_row T.y__law_row (takes_of rfl rfl rfl rfl) (da_cons (dp_ix (db_v 0) (db_v 2)) (da_cons (dp_ix (db_v 1) (db_v 2)) da_nil)) (fun _ _ h => pArgs_len h))))))).t
  (dss_one (ds_ret dp_bl))
  dss_nil)))
  (dss_one (ds_ret dp_bl))))
theorem sc_full_orders : FnScope ["orders", "number", "things", "rows", "at", "order", "others", "k"] ["orders"] (defScope s_full_orders) := ⟨rfl, rfl, rfl, by decide +kernel, rfl, by decide +kernel, by decide +kernel⟩
theorem d_full_orders (T : Txt K mg) : FnOk P w K mg base (L2.CX P w) 2 T.a_full_orders T.f_full_orders ["orders"] (spD K 1 (F_full_orders T.CBook)) :=
  fn_ok (N := ["orders", "number", "things", "rows", "at", "order", "others", "k"]) (g := g_full_orders T.CBook) T.F_full_orders sc_full_orders (by decide) fun cdv A outer s H E hr =>
  (dss_cons (ds_asgT (dp_call (d_check_orders T) (hr.mono (by decide)) T.m_check_orders T.k_check_orders T.y_check_orders (takes_of rfl rfl rfl rfl) (da_cons (dp_v 0) da_nil) (fun _ _ h => pArgs_len h)) (dg_t rfl (nms_cons sc_full_orders.nd (nms_cons sc_full_orders.nd nms_nil))))
  (dss_cons (ds_setF 3 (df_lst da_nil) sc_full_orders.nd)
  (dss_cons (ds_for (passes_of rfl) rfl (di_enum T.b_enumerate (dp_v 0)) (dg_t rfl (nms_cons sc_full_orders.nd (nms_cons sc_full_orders.nd nms_nil)))
  (dss_cons (ds_setLcP 6 (own := [("k", 7)]) rfl sc_full_orders.nd (di_range1 T.b_range (da_cons (dp_v 1) da_nil)) (blkOk_by (by kernel_rfl)) (cg_n 7 (by decide) fun s H C cl fp => pg_name sc_full_orders.nd rfl (by first | exact Or.inl rfl | exact Or.inr rfl)) (ct_if fun s H C cl fp => (dt_cmp (op_neD (U hr)) v2_ne (db_v 7) (db_v 4))) (fun s H C cl fp => (dp_op op_add v2_add (db_v 2) (db_v 7))))
  (dss_one (ds_app 3 (dp_ty call_tupleX vn_tupleX T.b_tuple (by decide +kernel) (dba_cons (((df_cat (((df_cat (((df_lst (da_cons (dp_op op_add v2_add (db_v 2) (db_v 4)) da_nil))).p).b (((df_ty call_list_of vf_list T.b_list (by decide +kernel) (dba_cons (db_v 5) dba_nil))).p).b)).p).b (db_v 6))).p).b dba_nil))))))
  (dss_one (ds_retM 3)))))
theorem sc_first_of : FnScope ["row", "room", "place"] ["row", "room"] (defScope s_first_of) := ⟨rfl, rfl, rfl, by decide +kernel, rfl, by decide +kernel, by decide +kernel⟩
theorem d_first_of (T : Txt K mg) : FnOk P w K mg base (L2.CX P w) 1 T.a_first_of T.f_first_of ["row", "room"] (spD K 2 (F_first_of T.CBook)) :=
  fn_ok (N := ["row", "room", "place"]) (g := g_first_of T.CBook) T.F_first_of sc_first_of (by decide) fun cdv A outer s H E hr =>
  (dss_one (ds_ret (dp_ix (((df_comp (own := [("place", 2)]) rfl sc_first_of.nd (di_seq (dp_v 0)) (blkOk_by (by kernel_rfl)) (cg_n 2 (by decide) fun s H C cl fp => pg_name sc_first_of.nd rfl (by first | exact Or.inl rfl | exact Or.inr rfl)) (ct_if fun s H C cl fp => (dt_cmp (op_inA (U1 hr)) v2_in (db_v 2) (db_v 1) (by with_unfolding_all rfl))) (fun s H C cl fp => (dp_v 2)))).p).b (dp_int).b)))
theorem sc_places_above : FnScope ["row", "room"] ["row", "room"] (defScope s_places_above) := ⟨rfl, rfl, rfl, by decide +kernel, rfl, by decide +kernel, by decide +kernel⟩
theorem d_places_above (T : Txt K mg) : FnOk P w K mg base (L2.CX P w) 2 T.a_places_above T.f_places_above ["row", "room"] (spD K 2 (F_places_above T.CBook)) :=
  fn_ok (N := ["row", "room"]) (g := g_places_above T.CBook) T.F_places_above sc_places_above (by decide) fun cdv A outer s H E hr =>
  (dss_one (ds_ret (dp_sl (db_v 0) (do_so (dp_op op_add v2_add ((dp_idxT (db_v 0) (dp_call (d_first_of T) (hr.mono (by decide)) T.m_first_of T.k_first_of T.y_first_of (takes_of rfl rfl rfl rfl) (da_cons (dp_v 0) (da_cons (dp_v 1) da_nil)) (fun _ _ h => pArgs_len h)))).b (dp_int).b)) do_no)))
theorem sc_above_in_all : FnScope ["rows", "room", "found", "row", "above", "place"] ["rows", "room"] (defScope s_above_in_all) := ⟨rfl, rfl, rfl, by decide +kernel, rfl, by decide +kernel, by decide +kernel⟩
theorem d_above_in_all (T : Txt K mg) : FnOk P w K mg base (L2.CX P w) 3 T.a_above_in_all T.f_above_in_all ["rows", "room"] (spD K 2 (F_above_in_all T.CBook)) :=
  fn_ok (N := ["rows", "room", "found", "row", "above", "place"]) (g := g_above_in_all T.CBook) T.F_above_in_all sc_above_in_all (by decide) fun cdv A outer s H E hr =>
  (dss_cons (ds_set 2 ((df_bi cr_sort vf_sorted T.b_sorted (by decide +kernel) (dba_cons ((dp_call (d_places_above T) (hr.mono (by decide)) T.m_places_above T.k_places_above T.y_places_above (takes_of rfl rfl rfl rfl) (da_cons (dp_ix (db_v 0) (dp_int).b) (da_cons (dp_v 1) da_nil)) (fun _ _ h => pArgs_len h))).b dba_nil))).p sc_above_in_all.nd)
  (dss_cons (ds_for (passes_of rfl) rfl (di_seq ((df_sl (db_v 0) (do_so dp_int) do_no)).p) (dg_n 3 sc_above_in_all.nd)
  (dss_cons (ds_set 4 (dp_call (d_places_above T) (hr.mono (by decide)) T.m_places_above T.k_places_above T.y_places_above (takes_of rfl rfl rfl rfl) (da_cons (dp_v 3) (da_cons (dp_v 1) da_nil)) (fun _ _ h => pArgs_len h)) sc_above_in_all.nd)
  (dss_one (ds_setLcP 2 (own := [("place", 5)]) rfl sc_above_in_all.nd (di_seq (dp_v 2)) (blkOk_by (by kernel_rfl)) (cg_n 5 (by decide) fun s H C cl fp => pg_name sc_above_in_all.nd rfl (by first | exact Or.inl rfl | exact Or.inr rfl)) (ct_if fun s H C cl fp => (dt_cmp (op_inA (U1 hr)) v2_in (db_v 5) (db_v 4) (by with_unfolding_all rfl))) (fun s H C cl fp => (dp_v 5))))))
  (dss_one (ds_ret (dp_v 2)))))
theorem sc_beaters : FnScope ["orders", "room"] ["orders", "room"] (defScope s_beaters) := ⟨rfl, rfl, rfl, by decide +kernel, rfl, by decide +kernel, by decide +kernel⟩
theorem d_beaters (T : Txt K mg) : FnOk P w K mg base (L2.CX P w) 4 T.a_beaters T.f_beaters ["orders", "room"] (spD K 2 (F_beaters T.CBook)) :=
  fn_ok (N := ["orders", "room"]) (g := g_beaters T.CBook) T.F_beaters sc_beaters (by decide) fun cdv A outer s H E hr =>
  (dss_one (ds_ret (dp_call (d_above_in_all T) (hr.mono (by decide)) T.m_above_in_all T.k_above_in_all T.y_above_in_all (takes_of rfl rfl rfl rfl) (da_cons (dp_call (d_full_orders T) (hr.mono (by decide)) T.m_full_orders T.k_full_orders T.y_full_orders (takes_of rfl rfl rfl rfl) (da_cons (dp_v 0) da_nil) (fun _ _ h => pArgs_len h)) (da_cons (dp_v 1) da_nil)) (fun _ _ h => pArgs_len h))))
theorem sc_least_place : FnScope ["orders", "at", "room"] ["orders", "at", "room"] (defScope s_least_place) := ⟨rfl, rfl, rfl, by decide +kernel, rfl, by decide +kernel, by decide +kernel⟩
theorem d_least_place (T : Txt K mg) : FnOk P w K mg base (L2.CX P w) 3 T.a_least_place T.f_least_place ["orders", "at", "room"] (spD K 3 (F_least_place T.CBook)) :=
  fn_ok (N := ["orders", "at", "room"]) (g := g_least_place T.CBook) T.F_least_place sc_least_place (by decide) fun cdv A outer s H E hr =>
  (dss_one (ds_ret (dp_call (d_first_of T) (hr.mono (by decide)) T.m_first_of T.k_first_of T.y_first_of (takes_of rfl rfl rfl rfl) (da_cons (dp_ix ((dp_call (d_full_orders T) (hr.mono (by decide)) T.m_full_orders T.k_full_orders T.y_full_orders (takes_of rfl rfl rfl rfl) (da_cons (dp_v 0) da_nil) (fun _ _ h => pArgs_len h))).b (db_v 1)) (da_cons (dp_v 2) da_nil)) (fun _ _ h => pArgs_len h))))
theorem sc__law_one_room : FnScope ["_law_given", "_law_ranks_here", "_law_room", "_law_told", "_law_k", "_law_low", "_law_p"] ["_law_given", "_law_ranks_here", "_law_room"] (defScope s__law_one_room) := ⟨rfl, rfl, rfl, by decide +kernel, rfl, by decide +kernel, by decide +kernel⟩
theorem d__law_one_room (T : Txt K mg) : FnOk P w K mg base (L2.CX P w) 5 T.a__law_one_room T.f__law_one_room ["_law_given", "_law_ranks_here", "_law_room"] (spD K 3 (F__law_one_room T.CBook)) :=
  fn_ok (N := ["_law_given", "_law_ranks_here", "_law_room", "_law_told", "_law_k", "_law_low", "_law_p"]) (g := g__law_one_room T.CBook) T.F__law_one_room sc__law_one_room (by decide) fun cdv A outer s H E hr =>
  (dss_cons (ds_set 3 (dp_call (d_beaters T) (hr.mono (by decide)) T.m_beaters T.k_beaters T.y_beaters (takes_of rfl rfl rfl rfl) (da_cons (dp_v 0) (da_cons (dp_v 2) da_nil)) (fun _ _ h => pArgs_len h)) sc__law_one_room.nd)
  (dss_cons (ds_if ((dw_or (dt_not (dt_v (dp_isi .list T.b_isinstance rfl T.b_list (db_v 3)))) (dw_or1 (dt_not (dt_v (dp_call (d__law_row T) (hr.mono (by decide)) T.m__law_row T.k__law_row T.y__law_row (takes_of rfl rfl rfl rfl) (da_cons (dp_v 3) (da_cons (dp_call (d__law_beaters T) (hr.mono (by decide)) T.m__law_beaters T.k__law_beaters T.y__law_beaters (takes_of rfl rfl rfl rfl) (da_cons (dp_v 1) (da_cons (dp_v 2) da_nil)) (fun _ _ h => pArgs_len h)) da_nil)) (fun _ _ h => pArgs_len h))))))).t
  (dss_one (ds_ret dp_bl))
  dss_nil)
  (dss_cons (ds_for (passes_of rfl) rfl (di_range1 T.b_range (da_cons (dp_bi call_len vn_len T.b_len PySem.boot_len (dba_cons (db_v 1) dba_nil)) da_nil)) (dg_n 4 sc__law_one_room.nd)
  (dss_cons (ds_set 5 (dp_call (d_least_place T) (hr.mono (by decide)) T.m_least_place T.k_least_place T.y_least_place (takes_of rfl rfl rfl rfl) (da_cons (dp_v 0) (da_cons (dp_v 4) (da_cons (dp_v 2) da_nil))) (fun _ _ h => pArgs_len h)) sc__law_one_room.nd)
  (dss_cons (ds_if ((dw_or (dt_cmp (op_notInA (U1 hr)) v2_notIn (db_v 5) (db_v 2) (by with_unfolding_all rfl)) (dw_or1 (dt_not (dt_v (dp_call (d__law_row T) (hr.mono (by decide)) T.m__law_row T.k__law_row T.y__law_row (takes_of rfl rfl rfl rfl) (da_cons ((df_lst (da_cons (dp_v 5) da_nil))).p (da_cons ((df_lst (da_cons (dp_v 5) da_nil))).p da_nil)) (fun _ _ h => pArgs_len h))))))).t
  (dss_one (ds_ret dp_bl))
  dss_nil)
  (dss_one (ds_if (dt_cmp (op_neD (U hr)) v2_ne ((dp_ix ((dp_ix (db_v 1) (db_v 4))).b (db_v 5))).b ((dp_bi (cr_min rfl) vn_minL T.b_min (by decide +kernel) (dba_cons (((df_comp (own := [("_law_p", 6)]) rfl sc__law_one_room.nd (di_seq (dp_v 2)) (blkOk_by (by kernel_rfl)) (cg_n 6 (by decide) fun s H C cl fp => pg_name sc__law_one_room.nd rfl (by first | exact Or.inl rfl | exact Or.inr rfl)) ct_no (fun s H C cl fp => (dp_ix ((dp_ix (db_v 1) (db_v 4))).b (db_v 6))))).p).b dba_nil))).b)
  (dss_one (ds_ret dp_bl))
  dss_nil)))))
  (dss_one (ds_ret dp_bl)))))
theorem sc__law_by_bits : FnScope ["_law_n", "_law_cell_here", "_law_room", "_law_p"] ["_law_n", "_law_cell_here"] (defScope s__law_by_bits) := ⟨rfl, rfl, rfl, by decide +kernel, rfl, by decide +kernel, by decide +kernel⟩
theorem d__law_by_bits (T : Txt K mg) : FnOk P w K mg base (L2.CX P w) 1 T.a__law_by_bits T.f__law_by_bits ["_law_n", "_law_cell_here"] (spD K 2 (F__law_by_bits T.CBook)) :=
  fn_ok (N := ["_law_n", "_law_cell_here", "_law_room", "_law_p"]) (g := g__law_by_bits T.CBook) T.F__law_by_bits sc__law_by_bits (by decide) fun cdv A outer s H E hr =>
  (dss_cons (ds_setF 2 (df_lst da_nil) sc__law_by_bits.nd)
  (dss_cons (ds_for (passes_of rfl) rfl (di_range1 T.b_range (da_cons (dp_v 0) da_nil)) (dg_n 3 sc__law_by_bits.nd)
  (dss_cons (ds_if (dt_cmp (op_eqD (U hr)) v2_eq ((dp_op op_mod v2_mod ((dp_ty call_int1 vn_int1 T.b_int (by decide +kernel) (dba_cons (db_v 1) dba_nil))).b (dp_int).b)).b (dp_int).b)
  (dss_one (ds_app 2 (dp_v 3)))
  dss_nil)
  (dss_one (ds_set 1 (dp_op op_fdiv v2_div (db_v 1) (dp_int).b) sc__law_by_bits.nd))))
  (dss_cons (ds_if (dt_cmp (op_eqD (U hr)) v2_eq ((dp_bi call_len vn_len T.b_len PySem.boot_len (dba_cons (db_v 2) dba_nil))).b (dp_int).b)
  (dss_one (ds_ret (dp_tup (da_cons (dp_op op_sub v2_sub (db_v 0) (dp_int).b) da_nil))))
  dss_nil)
  (dss_one (ds_ret (dp_ty call_tuple_of vn_tuple T.b_tuple (by decide +kernel) (dba_cons (db_v 2) dba_nil)))))))
theorem sc__law_some_rooms : FnScope ["_law_given", "_law_ranks_here", "_law_rooms_here", "_law_script", "_law_n", "_law_step", "_law_at", "_law_k"] ["_law_given", "_law_ranks_here", "_law_rooms_here", "_law_script"] (defScope s__law_some_rooms) := ⟨rfl, rfl, rfl, by decide +kernel, rfl, by decide +kernel, by decide +kernel⟩
theorem d__law_some_rooms (T : Txt K mg) : FnOk P w K mg base (L2.CX P w) 6 T.a__law_some_rooms T.f__law_some_rooms ["_law_given", "_law_ranks_here", "_law_rooms_here", "_law_script"] (spD K 4 (F__law_some_rooms T.CBook)) :=
  fn_ok (N := ["_law_given", "_law_ranks_here", "_law_rooms_here", "_law_script", "_law_n", "_law_step", "_law_at", "_law_k"]) (g := g__law_some_rooms T.CBook) T.F__law_some_rooms sc__law_some_rooms (by decide) fun cdv A outer s H E hr =>
  (dss_cons (ds_set 4 (dp_bi call_len vn_len T.b_len PySem.boot_len (dba_cons ((dp_ix (db_v 1) (dp_int).b)).b dba_nil)) sc__law_some_rooms.nd)
  (dss_cons (ds_set 5 (dp_op op_add v2_add (dp_int).b ((dp_op op_fdiv v2_div ((dp_bi call_len vn_len T.b_len PySem.boot_len (dba_cons (db_v 2) dba_nil))).b (dp_int).b)).b) sc__law_some_rooms.nd)
  (dss_cons (ds_for (passes_of rfl) rfl (di_range3 T.b_range (da_cons (dp_op op_mod v2_mod ((dp_ty call_int1 vn_int1 T.b_int (by decide +kernel) (dba_cons ((dp_call (d__law_cell T) (hr.mono (by decide)) T.m__law_cell T.k__law_cell T.y__law_cell (takes_of rfl rfl rfl rfl) (da_cons (dp_v 3) (da_cons dp_int da_nil)) (fun _ _ h => pArgs_len h))).b dba_nil))).b (db_v 5)) (da_cons (dp_bi call_len vn_len T.b_len PySem.boot_len (dba_cons (db_v 2) dba_nil)) (da_cons (dp_v 5) da_nil)))) (dg_n 6 sc__law_some_rooms.nd)
  (dss_one (ds_if (dt_not (dt_v (dp_call (d__law_one_room T) (hr.mono (by decide)) T.m__law_one_room T.k__law_one_room T.y__law_one_room (takes_of rfl rfl rfl rfl) (da_cons (dp_v 0) (da_cons (dp_v 1) (da_cons (dp_ix (db_v 2) (db_v 6)) da_nil))) (fun _ _ h => pArgs_len h))))
  (dss_one (ds_ret dp_bl))
  dss_nil)))
  (dss_cons (ds_for (passes_of rfl) rfl (di_range1 T.b_range (da_cons dp_int da_nil)) (dg_n 7 sc__law_some_rooms.nd)
  (dss_one (ds_if (dt_not (dt_v (dp_call (d__law_one_room T) (hr.mono (by decide)) T.m__law_one_room T.k__law_one_room T.y__law_one_room (takes_of rfl rfl rfl rfl) (da_cons (dp_v 0) (da_cons (dp_v 1) (da_cons (dp_call (d__law_by_bits T) (hr.mono (by decide)) T.m__law_by_bits T.k__law_by_bits T.y__law_by_bits (takes_of rfl rfl rfl rfl) (da_cons (dp_v 4) (da_cons (dp_call (d__law_cell T) (hr.mono (by decide)) T.m__law_cell T.k__law_cell T.y__law_cell (takes_of rfl rfl rfl rfl) (da_cons (dp_v 3) (da_cons (dp_op op_add v2_add (dp_int).b (db_v 7)) da_nil)) (fun _ _ h => pArgs_len h)) da_nil)) (fun _ _ h => pArgs_len h)) da_nil))) (fun _ _ h => pArgs_len h))))
  (dss_one (ds_ret dp_bl))
  dss_nil)))
  (dss_one (ds_ret dp_bl))))))
theorem sc_subsets : FnScope ["items", "size", "found", "k", "rest"] ["items", "size"] (defScope s_subsets) := ⟨rfl, rfl, rfl, by decide +kernel, rfl, by decide +kernel, by decide +kernel⟩
theorem d_subsets (T : Txt K mg) : ∀ n : Nat, FnOk P w K mg base (L2.CX P w) (0 + n + 1) T.a_subsets T.f_subsets ["items", "size"] (spD K 2 (F_subsets T.CBook n))
  | 0 => fn_ok (N := ["items", "size", "found", "k", "rest"]) (g := sNo) T.F_subsets sc_subsets (by decide) fun cdv A outer s H E hr => dss_no
  | n + 1 => by
    have ih := d_subsets T n
    exact fn_ok (N := ["items", "size", "found", "k", "rest"]) (g := g_subsets T.CBook (F_subsets T.CBook n)) T.F_subsets sc_subsets (by decide) fun cdv A outer s H E hr =>
  (dss_cons (ds_if (dt_cmp (op_eqD (U hr)) v2_eq (db_v 1) (dp_int).b)
  (dss_one (ds_retF (df_lst (da_cons (dp_tup da_nil) da_nil))))
  dss_nil)
  (dss_cons (ds_setF 2 (df_lst da_nil) sc_subsets.nd)
  (dss_cons (ds_for (passes_of rfl) rfl (di_range1 T.b_range (da_cons (dp_op op_add v2_add ((dp_op op_sub v2_sub ((dp_bi call_len vn_len T.b_len PySem.boot_len (dba_cons (db_v 0) dba_nil))).b (db_v 1))).b (dp_int).b) da_nil)) (dg_n 3 sc_subsets.nd)
  (dss_one (ds_for (passes_of rfl) rfl (di_seq (dp_call ih hr T.m_subsets T.k_subsets T.y_subsets (takes_of rfl rfl rfl rfl) (da_cons (dp_sl (db_v 0) (do_so (dp_op op_add v2_add (db_v 3) (dp_int).b)) do_no) (da_cons (dp_op op_sub v2_sub (db_v 1) (dp_int).b) da_nil)) (fun _ _ h => pArgs_len h))) (dg_n 4 sc_subsets.nd)
  (dss_one (ds_app 2 (dp_op op_catA v2_catT ((dp_tup (da_cons (dp_ix (db_v 0) (db_v 3)) da_nil))).b (db_v 4)))))))
  (dss_one (ds_retM 2)))))
theorem sc_unbeaten_rooms : FnScope ["orders", "number", "things", "rows", "room"] ["orders"] (defScope s_unbeaten_rooms) := ⟨rfl, rfl, rfl, by decide +kernel, rfl, by decide +kernel, by decide +kernel⟩
theorem d_unbeaten_rooms (T : Txt K mg) : FnOk P w K mg base (L2.CX P w) 8 T.a_unbeaten_rooms T.f_unbeaten_rooms ["orders"] (spD K 1 (F_unbeaten_rooms T.CBook)) :=
  fn_ok (N := ["orders", "number", "things", "rows", "room"]) (g := g_unbeaten_rooms T.CBook) T.F_unbeaten_rooms sc_unbeaten_rooms (by decide) fun cdv A outer s H E hr =>
  (dss_cons (ds_asgT (dp_call (d_check_orders T) (hr.mono (by decide)) T.m_check_orders T.k_check_orders T.y_check_orders (takes_of rfl rfl rfl rfl) (da_cons (dp_v 0) da_nil) (fun _ _ h => pArgs_len h)) (dg_t rfl (nms_cons sc_unbeaten_rooms.nd (nms_cons sc_unbeaten_rooms.nd nms_nil))))
  (dss_cons (ds_set 3 (dp_call (d_full_orders T) (hr.mono (by decide)) T.m_full_orders T.k_full_orders T.y_full_orders (takes_of rfl rfl rfl rfl) (da_cons (dp_v 0) da_nil) (fun _ _ h => pArgs_len h)) sc_unbeaten_rooms.nd)
  (dss_one (ds_retF (df_comp (own := [("room", 4)]) rfl sc_unbeaten_rooms.nd (di_seq (dp_call (d_subsets T 6) (hr.mono (by decide)) T.m_subsets T.k_subsets T.y_subsets (takes_of rfl rfl rfl rfl) (da_cons (dp_tupRg1 rfl T.b_tuple T.b_range (dp_op op_add v2_add (db_v 2) (db_v 1))) (da_cons (dp_v 1) da_nil)) (fun _ _ h => pArgs_len h))) (blkOk_by (by kernel_rfl)) (cg_n 4 (by decide) fun s H C cl fp => pg_name sc_unbeaten_rooms.nd rfl (by first | exact Or.inl rfl | exact Or.inr rfl)) (ct_if fun s H C cl fp => (dt_cmp (op_eqD (U hr)) v2_eq ((dp_bi call_len vn_len T.b_len PySem.boot_len (dba_cons ((dp_call (d_above_in_all T) (hr.mono (by decide)) T.m_above_in_all T.k_above_in_all T.y_above_in_all takes0 (da_cons (dp_v 3) (da_cons (dp_v 4) da_nil)) (fun _ _ h => pArgs_len h))).b dba_nil))).b (dp_int).b)) (fun s H C cl fp => (dp_v 4)))))))
theorem sc_room_fault : FnScope ["places", "size", "room", "p"] ["places", "size", "room"] (defScope s_room_fault) := ⟨rfl, rfl, rfl, by decide +kernel, rfl, by decide +kernel, by decide +kernel⟩
theorem d_room_fault (T : Txt K mg) : FnOk P w K mg base (L2.CX P w) 1 T.a_room_fault T.f_room_fault ["places", "size", "room"] (spD K 3 (F_room_fault T.CBook)) :=
  fn_ok (N := ["places", "size", "room", "p"]) (g := g_room_fault T.CBook) T.F_room_fault sc_room_fault (by decide) fun cdv A outer s H E hr =>
  (dss_cons (ds_if (dt_cmp (op_neD (U hr)) v2_ne ((dp_bi call_len vn_len T.b_len PySem.boot_len (dba_cons (db_v 2) dba_nil))).b (db_v 1))
  (dss_one (ds_ret dp_str))
  dss_nil)
  (dss_cons (ds_for (passes_of rfl) rfl (di_seq (dp_v 2)) (dg_n 3 sc_room_fault.nd)
  (dss_one (ds_if (dt_not (dt_chain op_le v2_le op_lt v2_lt (dp_int).b (db_v 3) (db_v 0)))
  (dss_one (ds_ret dp_str))
  dss_nil)))
  (dss_cons (ds_if (dt_cmp (op_neD (U hr)) v2_ne ((dp_lenSet rfl T.b_len T.b_set (db_v 2))).b (db_v 1))
  (dss_one (ds_ret dp_str))
  dss_nil)
  (dss_one (ds_ret dp_str)))))
theorem sc_Book___init__ : FnScope ["self", "places", "size", "rooms", "known", "at", "listed", "fault", "room"] ["self", "places", "size", "rooms"] (defScope s_Book___init__) := ⟨rfl, rfl, rfl, by decide +kernel, rfl, by decide +kernel, by decide +kernel⟩
theorem d_Book___init__ (T : Txt K mg) : FnOk P w K mg base (L2.CX P w) 2 T.a_Book___init__ T.f_Book___init__ ["self", "places", "size", "rooms"] (spI K T.CBook 3 (F_Book___init__ T.CBook)) :=
  fn_init (N := ["self", "places", "size", "rooms", "known", "at", "listed", "fault", "room"]) (g := g_Book___init__ T.CBook) T.F_Book___init__ sc_Book___init__ (by decide) fun cdv A outer s H E hr =>
  (dss_cons (ds_if (dt_not (dt_chain op_le v2_le op_le v2_le (dp_int).b (db_v 1) ((dp_cval T.m_Book T.cr_Book T.c_Book_MOST_PLACES)).b))
  (dss_one ds_no)
  dss_nil)
  (dss_cons (ds_if (dt_not (dt_chain op_le v2_le op_le v2_le (dp_int).b (db_v 2) (db_v 1)))
  (dss_one ds_no)
  dss_nil)
  (dss_cons (ds_newD 4 sc_Book___init__.nd)
  (dss_cons (ds_for (passes_of rfl) rfl (di_enum T.b_enumerate (dp_v 3)) (dg_t rfl (nms_cons sc_Book___init__.nd (nms_cons sc_Book___init__.nd nms_nil)))
  (dss_cons (ds_set 7 (dp_call (d_room_fault T) (hr.mono (by decide)) T.m_room_fault T.k_room_fault T.y_room_fault (takes_of rfl rfl rfl rfl) (da_cons (dp_v 1) (da_cons (dp_v 2) (da_cons (dp_v 6) da_nil))) (fun _ _ h => pArgs_len h)) sc_Book___init__.nd)
  (dss_cons (ds_set 8 (dp_ty call_tuple_of vn_tuple T.b_tuple (by decide +kernel) (dba_cons (((df_bi cr_sort vf_sorted T.b_sorted (by decide +kernel) (dba_cons (db_v 6) dba_nil))).p).b dba_nil)) sc_Book___init__.nd)
  (dss_cons (ds_if ((dw_and (dt_cmp (op_eqD (U hr)) v2_eq (db_v 7) (dp_str).b) (dw_and1 (dt_inD 4 (U2 hr) (dp_v 8))))).t
  (dss_one (ds_set 7 dp_str sc_Book___init__.nd))
  dss_nil)
  (dss_cons (ds_if (dt_cmp (op_neD (U hr)) v2_ne (db_v 7) (dp_str).b)
  (dss_one ds_no)
  dss_nil)
  (dss_one (ds_putD 4 (U2 hr) (dp_v 8) dp_bl)))))))
  (dss_cons (ds_fld 0 (dp_v 1) T.cl_Book T.n_Book_places)
  (dss_cons (ds_fld 0 (dp_v 2) T.cl_Book T.n_Book_size)
  (dss_one (ds_fld 0 (dp_ty call_tuple_of vn_tuple T.b_tuple (by decide +kernel) (dba_cons (((df_sortD 4 rfl T.b_sorted)).p).b dba_nil)) T.cl_Book T.n_Book_rooms))))))))
theorem sc_own_places : FnScope ["orders", "number", "things"] ["orders"] (defScope s_own_places) := ⟨rfl, rfl, rfl, by decide +kernel, rfl, by decide +kernel, by decide +kernel⟩
theorem d_own_places (T : Txt K mg) : FnOk P w K mg base (L2.CX P w) 2 T.a_own_places T.f_own_places ["orders"] (spD K 1 (F_own_places T.CBook)) :=
  fn_ok (N := ["orders", "number", "things"]) (g := g_own_places T.CBook) T.F_own_places sc_own_places (by decide) fun cdv A outer s H E hr =>
  (dss_cons (ds_asgT (dp_call (d_check_orders T) (hr.mono (by decide)) T.m_check_orders T.k_check_orders T.y_check_orders (takes_of rfl rfl rfl rfl) (da_cons (dp_v 0) da_nil) (fun _ _ h => pArgs_len h)) (dg_t rfl (nms_cons sc_own_places.nd (nms_cons sc_own_places.nd nms_nil))))
  (dss_one (ds_ret (dp_tupRg2 rfl T.b_tuple T.b_range (dp_v 2) (dp_op op_add v2_add (db_v 2) (db_v 1))))))
theorem sc_unbeaten_book : FnScope ["orders", "number", "things"] ["orders"] (defScope s_unbeaten_book) := ⟨rfl, rfl, rfl, by decide +kernel, rfl, by decide +kernel, by decide +kernel⟩
theorem d_unbeaten_book (T : Txt K mg) : FnOk P w K mg base (L2.CX P w) 9 T.a_unbeaten_book T.f_unbeaten_book ["orders"] (spD K 1 (F_unbeaten_book T.CBook)) :=
  fn_ok (N := ["orders", "number", "things"]) (g := g_unbeaten_book T.CBook) T.F_unbeaten_book sc_unbeaten_book (by decide) fun cdv A outer s H E hr =>
  (dss_cons (ds_asgT (dp_call (d_check_orders T) (hr.mono (by decide)) T.m_check_orders T.k_check_orders T.y_check_orders (takes_of rfl rfl rfl rfl) (da_cons (dp_v 0) da_nil) (fun _ _ h => pArgs_len h)) (dg_t rfl (nms_cons sc_unbeaten_book.nd (nms_cons sc_unbeaten_book.nd nms_nil))))
  (dss_one (ds_ret (dp_make T.M_Book (d_Book___init__ T) (hr.mono (by decide)) T.m_Book T.y_Book___init__ (fun _ _ _ h => runI_C h) (takes_of rfl rfl rfl rfl) (da_cons (dp_op op_add v2_add (db_v 2) (db_v 1)) (da_cons (dp_v 1) (da_cons ((df_cat ((dp_call (d_unbeaten_rooms T) (hr.mono (by decide)) T.m_unbeaten_rooms T.k_unbeaten_rooms T.y_unbeaten_rooms (takes_of rfl rfl rfl rfl) (da_cons (dp_v 0) da_nil) (fun _ _ h => pArgs_len h))).b (((df_lst (da_cons (dp_call (d_own_places T) (hr.mono (by decide)) T.m_own_places T.k_own_places T.y_own_places (takes_of rfl rfl rfl rfl) (da_cons (dp_v 0) da_nil) (fun _ _ h => pArgs_len h)) da_nil))).p).b)).p da_nil))) (fun _ _ h => pArgs_len h)))))
theorem sc__law_book : FnScope ["_law_given", "_law_n", "_law_d", "_law_due", "_law_book_here"] ["_law_given", "_law_n", "_law_d", "_law_due"] (defScope s__law_book) := ⟨rfl, rfl, rfl, by decide +kernel, rfl, by decide +kernel, by decide +kernel⟩
theorem d__law_book (T : Txt K mg) : FnOk P w K mg base (L2.CX P w) 10 T.a__law_book T.f__law_book ["_law_given", "_law_n", "_law_d", "_law_due"] (spD K 4 (F__law_book T.CBook)) :=
  fn_ok (N := ["_law_given", "_law_n", "_law_d", "_law_due", "_law_book_here"]) (g := g__law_book T.CBook) T.F__law_book sc__law_book (by decide) fun cdv A outer s H E hr =>
  (dss_cons (ds_set 4 (dp_call (d_unbeaten_book T) (hr.mono (by decide)) T.m_unbeaten_book T.k_unbeaten_book T.y_unbeaten_book (takes_of rfl rfl rfl rfl) (da_cons (dp_v 0) da_nil) (fun _ _ h => pArgs_len h)) sc__law_book.nd)
  (dss_cons (ds_if ((dw_or (dt_not (dt_v (dp_isiC T.o_Book T.b_isinstance T.m_Book (db_v 4)))) (dw_or (dt_cmp (op_neD (U hr)) v2_ne ((dp_fld (db_v 4) T.cl_Book T.n_Book_places)).b (db_v 1)) (dw_or1 (dt_cmp (op_neD (U hr)) v2_ne ((dp_fld (db_v 4) T.cl_Book T.n_Book_size)).b (db_v 2)))))).t
  (dss_one (ds_ret dp_bl))
  dss_nil)
  (dss_one (ds_ret (dp_call (d__law_rows T) (hr.mono (by decide)) T.m__law_rows T.k__law_rows T.y__law_rows (takes_of rfl rfl rfl rfl) (da_cons ((df_ty call_list_of vf_list T.b_list (by decide +kernel) (dba_cons ((dp_fld (db_v 4) T.cl_Book T.n_Book_rooms)).b dba_nil))).p (da_cons ((df_bi cr_sort vf_sorted T.b_sorted (by decide +kernel) (dba_cons (((df_cat (db_v 3) (((df_lst (da_cons (dp_tupRg2 rfl T.b_tuple T.b_range (dp_op op_sub v2_sub (db_v 1) (db_v 2)) (dp_v 1)) da_nil))).p).b)).p).b dba_nil))).p da_nil)) (fun _ _ h => pArgs_len h))))))
theorem sc_law : FnScope ["_law_script", "_law_d", "_law_v", "_law_orders", "_law_turned", "_law_given", "_law_ranks_here", "_law_rooms_here", "_law_due", "_law_size", "_law_first", "_law_other", "_law_k", "_law_order_here", "_law_room"] ["_law_script"] (defScope s_law) := ⟨rfl, rfl, rfl, by decide +kernel, rfl, by decide +kernel, by decide +kernel⟩
theorem d_law (T : Txt K mg) : FnOk P w K mg base (L2.CX P w) 11 T.a_law T.f_law ["_law_script"] (spD K 1 (F_law T.CBook)) :=
  fn_ok (N := ["_law_script", "_law_d", "_law_v", "_law_orders", "_law_turned", "_law_given", "_law_ranks_here", "_law_rooms_here", "_law_due", "_law_size", "_law_first", "_law_other", "_law_k", "_law_order_here", "_law_room"]) (g := g_law T.CBook) T.F_law sc_law (by decide) fun cdv A outer s H E hr =>
  (dss_cons (ds_set 1 (dp_op op_add v2_add (dp_int).b ((dp_op op_mod v2_mod ((dp_ty call_int1 vn_int1 T.b_int (by decide +kernel) (dba_cons ((dp_call (d__law_cell T) (hr.mono (by decide)) T.m__law_cell T.k__law_cell T.y__law_cell (takes_of rfl rfl rfl rfl) (da_cons (dp_v 0) (da_cons dp_int da_nil)) (fun _ _ h => pArgs_len h))).b dba_nil))).b (dp_int).b)).b) sc_law.nd)
  (dss_cons (ds_set 2 (dp_op op_add v2_add (dp_int).b ((dp_op op_mod v2_mod ((dp_ty call_int1 vn_int1 T.b_int (by decide +kernel) (dba_cons ((dp_call (d__law_cell T) (hr.mono (by decide)) T.m__law_cell T.k__law_cell T.y__law_cell (takes_of rfl rfl rfl rfl) (da_cons (dp_v 0) (da_cons dp_int da_nil)) (fun _ _ h => pArgs_len h))).b dba_nil))).b ((dp_bi (call_min2 rfl) vn_min2 T.b_min (by decide +kernel) (dba_cons (dp_int).b (dba_cons ((dp_op op_sub v2_sub (dp_int).b (db_v 1))).b dba_nil)))).b)).b) sc_law.nd)
  (dss_cons (ds_if (dt_cmp (op_eqD (U hr)) v2_eq ((dp_op op_mod v2_mod ((dp_ty call_int1 vn_int1 T.b_int (by decide +kernel) (dba_cons ((dp_call (d__law_cell T) (hr.mono (by decide)) T.m__law_cell T.k__law_cell T.y__law_cell (takes_of rfl rfl rfl rfl) (da_cons (dp_v 0) (da_cons dp_int da_nil)) (fun _ _ h => pArgs_len h))).b dba_nil))).b (dp_int).b)).b (dp_int).b)
  (dss_one (ds_set 2 (dp_op op_add v2_add (dp_int).b ((dp_op op_mod v2_mod ((dp_ty call_int1 vn_int1 T.b_int (by decide +kernel) (dba_cons ((dp_call (d__law_cell T) (hr.mono (by decide)) T.m__law_cell T.k__law_cell T.y__law_cell (takes_of rfl rfl rfl rfl) (da_cons (dp_v 0) (da_cons dp_int da_nil)) (fun _ _ h => pArgs_len h))).b dba_nil))).b (dp_int).b)).b) sc_law.nd))
  dss_nil)
  (dss_cons (ds_set 3 ((df_comp (own := [("_law_k", 12)]) rfl sc_law.nd (di_range1 T.b_range (da_cons (dp_v 1) da_nil)) (blkOk_by (by kernel_rfl)) (cg_n 12 (by decide) fun s H C cl fp => pg_name sc_law.nd rfl (by first | exact Or.inl rfl | exact Or.inr rfl)) ct_no (fun s H C cl fp => (dp_call (d__law_order T) (hr.mono (by decide)) T.m__law_order T.k__law_order T.y__law_order takes0 (da_cons (dp_call (d__law_cell T) (hr.mono (by decide)) T.m__law_cell T.k__law_cell T.y__law_cell takes0 (da_cons (dp_v 0) (da_cons (dp_op op_add v2_add (dp_int).b (db_v 12)) da_nil)) (fun _ _ h => pArgs_len h)) (da_cons (dp_v 2) da_nil)) (fun _ _ h => pArgs_len h))))).p sc_law.nd)
  (dss_cons (ds_setLcP 4 (own := [("_law_order_here", 13)]) rfl sc_law.nd (di_seq (dp_v 3)) (blkOk_by (by kernel_rfl)) (cg_n 13 (by decide) fun s H C cl fp => pg_name sc_law.nd rfl (by first | exact Or.inl rfl | exact Or.inr rfl)) ct_no (fun s H C cl fp => ((df_rev (db_v 13))).p))
  (dss_cons (ds_setLcP 5 (own := [("_law_order_here", 13)]) rfl sc_law.nd (di_seq (dp_v 3)) (blkOk_by (by kernel_rfl)) (cg_n 13 (by decide) fun s H C cl fp => pg_name sc_law.nd rfl (by first | exact Or.inl rfl | exact Or.inr rfl)) ct_no (fun s H C cl fp => ((df_ty call_list_of vf_list T.b_list (by decide +kernel) (dba_cons (db_v 13) dba_nil))).p))
  (dss_cons (ds_if (dt_cmp (op_eqD (U hr)) v2_eq ((dp_op op_mod v2_mod ((dp_ty call_int1 vn_int1 T.b_int (by decide +kernel) (dba_cons ((dp_call (d__law_cell T) (hr.mono (by decide)) T.m__law_cell T.k__law_cell T.y__law_cell (takes_of rfl rfl rfl rfl) (da_cons (dp_v 0) (da_cons dp_int da_nil)) (fun _ _ h => pArgs_len h))).b dba_nil))).b (dp_int).b)).b (dp_int).b)
  (dss_one (ds_set 5 (dp_ty call_tuple_of vn_tuple T.b_tuple (by decide +kernel) (dba_cons (((df_comp (own := [("_law_order_here", 13)]) rfl sc_law.nd (di_seq (dp_v 3)) (blkOk_by (by kernel_rfl)) (cg_n 13 (by decide) fun s H C cl fp => pg_name sc_law.nd rfl (by first | exact Or.inl rfl | exact Or.inr rfl)) ct_no (fun s H C cl fp => (dp_ty call_tuple_of vn_tuple T.b_tuple (by decide +kernel) (dba_cons (db_v 13) dba_nil))))).p).b dba_nil)) sc_law.nd))
  dss_nil)
  (dss_cons (ds_set 6 (dp_call (d__law_ranks T) (hr.mono (by decide)) T.m__law_ranks T.k__law_ranks T.y__law_ranks (takes_of rfl rfl rfl rfl) (da_cons (dp_v 3) (da_cons (dp_v 2) da_nil)) (fun _ _ h => pArgs_len h)) sc_law.nd)
  (dss_cons (ds_set 7 (dp_call (d__law_rooms T 6) (hr.mono (by decide)) T.m__law_rooms T.k__law_rooms T.y__law_rooms (takes_of rfl rfl rfl rfl) (da_cons (dp_tupRg1 rfl T.b_tuple T.b_range (dp_op op_add v2_add (db_v 1) (db_v 2))) (da_cons (dp_v 1) da_nil)) (fun _ _ h => pArgs_len h)) sc_law.nd)
  (dss_cons (ds_setLcP 8 (own := [("_law_room", 14)]) rfl sc_law.nd (di_seq (dp_v 7)) (blkOk_by (by kernel_rfl)) (cg_n 14 (by decide) fun s H C cl fp => pg_name sc_law.nd rfl (by first | exact Or.inl rfl | exact Or.inr rfl)) (ct_if fun s H C cl fp => (dt_cmp (op_eqD (U hr)) v2_eq ((dp_bi call_len vn_len T.b_len PySem.boot_len (dba_cons ((dp_call (d__law_beaters T) (hr.mono (by decide)) T.m__law_beaters T.k__law_beaters T.y__law_beaters takes0 (da_cons (dp_v 6) (da_cons (dp_v 14) da_nil)) (fun _ _ h => pArgs_len h))).b dba_nil))).b (dp_int).b)) (fun s H C cl fp => (dp_v 14)))
  (dss_cons (ds_set 9 (dp_call (d_check_orders T) (hr.mono (by decide)) T.m_check_orders T.k_check_orders T.y_check_orders (takes_of rfl rfl rfl rfl) (da_cons (dp_v 5) da_nil) (fun _ _ h => pArgs_len h)) sc_law.nd)
  (dss_cons (ds_if ((dw_or (dt_not (dt_v (dp_isi .tuple T.b_isinstance rfl T.b_tuple (db_v 9)))) (dw_or1 (dt_not (dt_v (dp_call (d__law_row T) (hr.mono (by decide)) T.m__law_row T.k__law_row T.y__law_row (takes_of rfl rfl rfl rfl) (da_cons (dp_v 9) (da_cons (dp_tup (da_cons (dp_v 1) (da_cons (dp_v 2) da_nil))) da_nil)) (fun _ _ h => pArgs_len h))))))).t
  (dss_one (ds_ret dp_bl))
  dss_nil)
  (dss_cons (ds_if (dt_not (dt_v (dp_call (d__law_rows T) (hr.mono (by decide)) T.m__law_rows T.k__law_rows T.y__law_rows (takes_of rfl rfl rfl rfl) (da_cons (dp_call (d_full_orders T) (hr.mono (by decide)) T.m_full_orders T.k_full_orders T.y_full_orders (takes_of rfl rfl rfl rfl) (da_cons (dp_v 5) da_nil) (fun _ _ h => pArgs_len h)) (da_cons ((df_comp (own := [("_law_k", 12)]) rfl sc_law.nd (di_range1 T.b_range (da_cons (dp_v 1) da_nil)) (blkOk_by (by kernel_rfl)) (cg_n 12 (by decide) fun s H C cl fp => pg_name sc_law.nd rfl (by first | exact Or.inl rfl | exact Or.inr rfl)) ct_no (fun s H C cl fp => (dp_ty call_tuple_of vn_tuple T.b_tuple (by decide +kernel) (dba_cons ((dp_call (d__law_full T) (hr.mono (by decide)) T.m__law_full T.k__law_full T.y__law_full takes0 (da_cons (dp_v 3) (da_cons (dp_v 2) (da_cons (dp_v 12) da_nil))) (fun _ _ h => pArgs_len h))).b dba_nil))))).p da_nil)) (fun _ _ h => pArgs_len h))))
  (dss_one (ds_ret dp_bl))
  dss_nil)
  (dss_cons (ds_if (dt_not (dt_v (dp_call (d__law_some_rooms T) (hr.mono (by decide)) T.m__law_some_rooms T.k__law_some_rooms T.y__law_some_rooms (takes_of rfl rfl rfl rfl) (da_cons (dp_v 5) (da_cons (dp_v 6) (da_cons (dp_v 7) (da_cons (dp_v 0) da_nil)))) (fun _ _ h => pArgs_len h))))
  (dss_one (ds_ret dp_bl))
  dss_nil)
  (dss_cons (ds_setF 10 (df_call (d_unbeaten_rooms T) (hr.mono (by decide)) T.m_unbeaten_rooms T.k_unbeaten_rooms T.y_unbeaten_rooms (takes_of rfl rfl rfl rfl) (da_cons (dp_v 5) da_nil) (fun _ _ h => pArgs_len h)) sc_law.nd)
  (dss_cons (ds_if (dt_not (dt_v (dp_callB (d__law_rows T) (hr.mono (by decide)) T.m__law_rows T.k__law_rows T.y__law_rows (takes_of rfl rfl rfl rfl) (dba_cons (db_v 10) (dba_cons (db_v 8) dba_nil)) (fun _ _ h => pArgs_len h))))
  (dss_one (ds_ret dp_bl))
  dss_nil)
  (dss_cons (ds_app 10 (dp_tup da_nil))
  (dss_cons (ds_set 11 (dp_call (d__law_ranks T) (hr.mono (by decide)) T.m__law_ranks T.k__law_ranks T.y__law_ranks (takes_of rfl rfl rfl rfl) (da_cons (dp_v 4) (da_cons (dp_v 2) da_nil)) (fun _ _ h => pArgs_len h)) sc_law.nd)
  (dss_cons (ds_if (dt_not (dt_v (dp_call (d__law_rows T) (hr.mono (by decide)) T.m__law_rows T.k__law_rows T.y__law_rows (takes_of rfl rfl rfl rfl) (da_cons (dp_call (d_unbeaten_rooms T) (hr.mono (by decide)) T.m_unbeaten_rooms T.k_unbeaten_rooms T.y_unbeaten_rooms (takes_of rfl rfl rfl rfl) (da_cons (dp_v 4) da_nil) (fun _ _ h => pArgs_len h)) (da_cons ((df_comp (own := [("_law_room", 14)]) rfl sc_law.nd (di_seq (dp_v 7)) (blkOk_by (by kernel_rfl)) (cg_n 14 (by decide) fun s H C cl fp => pg_name sc_law.nd rfl (by first | exact Or.inl rfl | exact Or.inr rfl)) (ct_if fun s H C cl fp => (dt_cmp (op_eqD (U hr)) v2_eq ((dp_bi call_len vn_len T.b_len PySem.boot_len (dba_cons ((dp_call (d__law_beaters T) (hr.mono (by decide)) T.m__law_beaters T.k__law_beaters T.y__law_beaters takes0 (da_cons (dp_v 11) (da_cons (dp_v 14) da_nil)) (fun _ _ h => pArgs_len h))).b dba_nil))).b (dp_int).b)) (fun s H C cl fp => (dp_v 14)))).p da_nil)) (fun _ _ h => pArgs_len h))))
  (dss_one (ds_ret dp_bl))
  dss_nil)
  (dss_cons (ds_if ((dw_or (dt_not (dt_v (dp_call (d__law_rows T) (hr.mono (by decide)) T.m__law_rows T.k__law_rows T.y__law_rows (takes_of rfl rfl rfl rfl) (da_cons (dp_call (d_unbeaten_rooms T) (hr.mono (by decide)) T.m_unbeaten_rooms T.k_unbeaten_rooms T.y_unbeaten_rooms (takes_of rfl rfl rfl rfl) (da_cons (dp_v 5) da_nil) (fun _ _ h => pArgs_len h)) (da_cons (dp_v 8) da_nil)) (fun _ _ h => pArgs_len h)))) (dw_or1 (dt_not (dt_v (dp_call (d__law_book T) (hr.mono (by decide)) T.m__law_book T.k__law_book T.y__law_book (takes_of rfl rfl rfl rfl) (da_cons (dp_v 5) (da_cons (dp_op op_add v2_add (db_v 1) (db_v 2)) (da_cons (dp_v 1) (da_cons (dp_v 8) da_nil)))) (fun _ _ h => pArgs_len h))))))).t
  (dss_one (ds_ret dp_bl))
  dss_nil)
  (dss_one (ds_ret (dv_and (dp_cmp (op_eqD (U hr)) v2_eq (((df_comp (own := [("_law_order_here", 13)]) rfl sc_law.nd (di_seq (dp_v 5)) (blkOk_by (by kernel_rfl)) (cg_n 13 (by decide) fun s H C cl fp => pg_name sc_law.nd rfl (by first | exact Or.inl rfl | exact Or.inr rfl)) ct_no (fun s H C cl fp => ((df_ty call_list_of vf_list T.b_list (by decide +kernel) (dba_cons (db_v 13) dba_nil))).p))).p).b (db_v 3)) (dv_one (dp_cmp (op_eqD (U hr)) v2_eq (db_v 4) (((df_comp (own := [("_law_order_here", 13)]) rfl sc_law.nd (di_seq (dp_v 3)) (blkOk_by (by kernel_rfl)) (cg_n 13 (by decide) fun s H C cl fp => pg_name sc_law.nd rfl (by first | exact Or.inl rfl | exact Or.inr rfl)) ct_no (fun s H C cl fp => ((df_rev (db_v 13))).p))).p).b)))))))))))))))))))))))))
end
end K40
end
section
set_option maxHeartbeats 4000000
/-! what the top has written: printed by gen.py -/
namespace K40
open PySem PySem.Spec L2 Pu
open PyProof.Rows hiding St
def spLaw (K : PySem.W.Frag) : Sp := fun vs H Q _ => ∃ (a : Addr) (ns : List Int), vs = [.ref a] ∧ SqL K H a (ns.map V.int) ∧ ns.length ≤ 63 ∧ ∀ H', Q (.bl true) H'
theorem sp_of {K : PySem.W.Frag} {F : List D → OF} (h : ∀ ns : List Int, ns.length ≤ 63 → F [.scr ns] = .ret (.val (.bl true))) : ∀ vs H Q E, spLaw K vs H Q E → spD K 1 F vs H Q E := fun vs H Q E ⟨a, ns, e, hs, hl, k⟩ => by
  subst e
  refine ⟨H, [.scr ns], Same.refl _, .cons (Dat.scr_iff.mpr ⟨a, rfl, hs⟩) .nil, rfl, ?_⟩
  rw [h ns hl]
  intro v G' H' x dv
  rw [Dat.bl_iff.mp dv]
  exact k H'
theorem all_mk {l : PySem.W.OpenLaw} {w : World} {K : PySem.W.Frag} {h : Heap} {mg : Str → Option Value} {fa : Addr} (X : K.In h) (G : h.Ns mainGlobals mg) (hfa : mg "law" = some (.ref fa))
  (law_true : ∀ (C : Nat) (ns : List Int), ns.length ≤ 63 → F_law C [.scr ns] = .ret (.val (.bl true)))
  {f__law_cell : Addr} {od__law_cell an__law_cell : Option Addr} {sl__law_cell : Array (Option Value)} {oc__law_cell kV__law_cell dc__law_cell pm__law_cell cd__law_cell ct__law_cell : Value}
  {f__law_order : Addr} {od__law_order an__law_order : Option Addr} {sl__law_order : Array (Option Value)} {oc__law_order kV__law_order dc__law_order pm__law_order cd__law_order ct__law_order : Value}
  {f__law_full : Addr} {od__law_full an__law_full : Option Addr} {sl__law_full : Array (Option Value)} {oc__law_full kV__law_full dc__law_full pm__law_full cd__law_full ct__law_full : Value}
  {f__law_ranks : Addr} {od__law_ranks an__law_ranks : Option Addr} {sl__law_ranks : Array (Option Value)} {oc__law_ranks kV__law_ranks dc__law_ranks pm__law_ranks cd__law_ranks ct__law_ranks : Value}
  {f__law_rooms : Addr} {od__law_rooms an__law_rooms : Option Addr} {sl__law_rooms : Array (Option Value)} {oc__law_rooms kV__law_rooms dc__law_rooms pm__law_rooms cd__law_rooms ct__law_rooms : Value}
  {f__law_beaters : Addr} {od__law_beaters an__law_beaters : Option Addr} {sl__law_beaters : Array (Option Value)} {oc__law_beaters kV__law_beaters dc__law_beaters pm__law_beaters cd__law_beaters ct__law_beaters : Value}
  {f_check_orders : Addr} {od_check_orders an_check_orders : Option Addr} {sl_check_orders : Array (Option Value)} {oc_check_orders kV_check_orders dc_check_orders pm_check_orders cd_check_orders ct_check_orders : Value}
  {f__law_row : Addr} {od__law_row an__law_row : Option Addr} {sl__law_row : Array (Option Value)} {oc__law_row kV__law_row dc__law_row pm__law_row cd__law_row ct__law_row : Value}
  {f__law_rows : Addr} {od__law_rows an__law_rows : Option Addr} {sl__law_rows : Array (Option Value)} {oc__law_rows kV__law_rows dc__law_rows pm__law_rows cd__law_rows ct__law_rows : Value}
  {f_full_orders : Addr} {od_full_orders an_full_orders : Option Addr} {sl_full_orders : Array (Option Value)} {oc_full_orders kV_full_orders dc_full_orders pm_full_orders cd_full_orders ct_full_orders : Value}
  {f_first_of : Addr} {od_first_of an_first_of : Option Addr} {sl_first_of : Array (Option Value)} {oc_first_of kV_first_of dc_first_of pm_first_of cd_first_of ct_first_of : Value}
  {f_places_above : Addr} {od_places_above an_places_above : Option Addr} {sl_places_above : Array (Option Value)} {oc_places_above kV_places_above dc_places_above pm_places_above cd_places_above ct_places_above : Value}
  {f_above_in_all : Addr} {od_above_in_all an_above_in_all : Option Addr} {sl_above_in_all : Array (Option Value)} {oc_above_in_all kV_above_in_all dc_above_in_all pm_above_in_all cd_above_in_all ct_above_in_all : Value}
  {f_beaters : Addr} {od_beaters an_beaters : Option Addr} {sl_beaters : Array (Option Value)} {oc_beaters kV_beaters dc_beaters pm_beaters cd_beaters ct_beaters : Value}
  {f_least_place : Addr} {od_least_place an_least_place : Option Addr} {sl_least_place : Array (Option Value)} {oc_least_place kV_least_place dc_least_place pm_least_place cd_least_place ct_least_place : Value}
  {f__law_one_room : Addr} {od__law_one_room an__law_one_room : Option Addr} {sl__law_one_room : Array (Option Value)} {oc__law_one_room kV__law_one_room dc__law_one_room pm__law_one_room cd__law_one_room ct__law_one_room : Value}
  {f__law_by_bits : Addr} {od__law_by_bits an__law_by_bits : Option Addr} {sl__law_by_bits : Array (Option Value)} {oc__law_by_bits kV__law_by_bits dc__law_by_bits pm__law_by_bits cd__law_by_bits ct__law_by_bits : Value}
  {f__law_some_rooms : Addr} {od__law_some_rooms an__law_some_rooms : Option Addr} {sl__law_some_rooms : Array (Option Value)} {oc__law_some_rooms kV__law_some_rooms dc__law_some_rooms pm__law_some_rooms cd__law_some_rooms ct__law_some_rooms : Value}
  {f_subsets : Addr} {od_subsets an_subsets : Option Addr} {sl_subsets : Array (Option Value)} {oc_subsets kV_subsets dc_subsets pm_subsets cd_subsets ct_subsets : Value}
  {f_unbeaten_rooms : Addr} {od_unbeaten_rooms an_unbeaten_rooms : Option Addr} {sl_unbeaten_rooms : Array (Option Value)} {oc_unbeaten_rooms kV_unbeaten_rooms dc_unbeaten_rooms pm_unbeaten_rooms cd_unbeaten_rooms ct_unbeaten_rooms : Value}
  {f_room_fault : Addr} {od_room_fault an_room_fault : Option Addr} {sl_room_fault : Array (Option Value)} {oc_room_fault kV_room_fault dc_room_fault pm_room_fault cd_room_fault ct_room_fault : Value}
  {f_Book___init__ : Addr} {od_Book___init__ an_Book___init__ : Option Addr} {sl_Book___init__ : Array (Option Value)} {oc_Book___init__ kV_Book___init__ dc_Book___init__ pm_Book___init__ cd_Book___init__ ct_Book___init__ : Value}
  {f_own_places : Addr} {od_own_places an_own_places : Option Addr} {sl_own_places : Array (Option Value)} {oc_own_places kV_own_places dc_own_places pm_own_places cd_own_places ct_own_places : Value}
  {f_unbeaten_book : Addr} {od_unbeaten_book an_unbeaten_book : Option Addr} {sl_unbeaten_book : Array (Option Value)} {oc_unbeaten_book kV_unbeaten_book dc_unbeaten_book pm_unbeaten_book cd_unbeaten_book ct_unbeaten_book : Value}
  {f__law_book : Addr} {od__law_book an__law_book : Option Addr} {sl__law_book : Array (Option Value)} {oc__law_book kV__law_book dc__law_book pm__law_book cd__law_book ct__law_book : Value}
  {f_law : Addr} {od_law an_law : Option Addr} {sl_law : Array (Option Value)} {oc_law kV_law dc_law pm_law cd_law ct_law : Value}
  {t_MOST_ORDERS : Tok}
  {t_MOST_THINGS : Tok}
  {C_Book : Addr}
  {t_Book_MOST_PLACES : Tok}
  (m_Book : PySem.W.nsIn K mainGlobals "Book" = some (some (.ref C_Book)))
  (a__law_cell : PySem.W.nsIn K mainGlobals "_law_cell" = some (some (.ref f__law_cell)))
  (l__law_cell : K.lookup f__law_cell = some ⟨oc__law_cell, od__law_cell, .func (PySem.W.fnOf "_law_cell" "_law_cell" (defArgs s__law_cell) (defBody s__law_cell) (defScope s__law_cell) .none kV__law_cell dc__law_cell pm__law_cell an__law_cell cd__law_cell ct__law_cell), sl__law_cell⟩)
  (c__law_cell : PySem.W.codeIn K cd__law_cell "_law_cell" = true)
  (k__law_cell : PySem.W.keepIn K (.ref f__law_cell) = true)
  (a__law_order : PySem.W.nsIn K mainGlobals "_law_order" = some (some (.ref f__law_order)))
  (l__law_order : K.lookup f__law_order = some ⟨oc__law_order, od__law_order, .func (PySem.W.fnOf "_law_order" "_law_order" (defArgs s__law_order) (defBody s__law_order) (defScope s__law_order) .none kV__law_order dc__law_order pm__law_order an__law_order cd__law_order ct__law_order), sl__law_order⟩)
  (c__law_order : PySem.W.codeIn K cd__law_order "_law_order" = true)
  (k__law_order : PySem.W.keepIn K (.ref f__law_order) = true)
  (a__law_full : PySem.W.nsIn K mainGlobals "_law_full" = some (some (.ref f__law_full)))
  (l__law_full : K.lookup f__law_full = some ⟨oc__law_full, od__law_full, .func (PySem.W.fnOf "_law_full" "_law_full" (defArgs s__law_full) (defBody s__law_full) (defScope s__law_full) .none kV__law_full dc__law_full pm__law_full an__law_full cd__law_full ct__law_full), sl__law_full⟩)
  (c__law_full : PySem.W.codeIn K cd__law_full "_law_full" = true)
  (k__law_full : PySem.W.keepIn K (.ref f__law_full) = true)
  (a__law_ranks : PySem.W.nsIn K mainGlobals "_law_ranks" = some (some (.ref f__law_ranks)))
  (l__law_ranks : K.lookup f__law_ranks = some ⟨oc__law_ranks, od__law_ranks, .func (PySem.W.fnOf "_law_ranks" "_law_ranks" (defArgs s__law_ranks) (defBody s__law_ranks) (defScope s__law_ranks) .none kV__law_ranks dc__law_ranks pm__law_ranks an__law_ranks cd__law_ranks ct__law_ranks), sl__law_ranks⟩)
  (c__law_ranks : PySem.W.codeIn K cd__law_ranks "_law_ranks" = true)
  (k__law_ranks : PySem.W.keepIn K (.ref f__law_ranks) = true)
  (a__law_rooms : PySem.W.nsIn K mainGlobals "_law_rooms" = some (some (.ref f__law_rooms)))
  (l__law_rooms : K.lookup f__law_rooms = some ⟨oc__law_rooms, od__law_rooms, .func (PySem.W.fnOf "_law_rooms" "_law_rooms" (defArgs s__law_rooms) (defBody s__law_rooms) (defScope s__law_rooms) .none kV__law_rooms dc__law_rooms pm__law_rooms an__law_rooms cd__law_rooms ct__law_rooms), sl__law_rooms⟩)
  (c__law_rooms : PySem.W.codeIn K cd__law_rooms "_law_rooms" = true)
  (k__law_rooms : PySem.W.keepIn K (.ref f__law_rooms) = true)
  (a__law_beaters : PySem.W.nsIn K mainGlobals "_law_beaters" = some (some (.ref f__law_beaters)))
  (l__law_beaters : K.lookup f__law_beaters = some ⟨oc__law_beaters, od__law_beaters, .func (PySem.W.fnOf "_law_beaters" "_law_beaters" (defArgs s__law_beaters) (defBody s__law_beaters) (defScope s__law_beaters) .none kV__law_beaters dc__law_beaters pm__law_beaters an__law_beaters cd__law_beaters ct__law_beaters), sl__law_beaters⟩)
  (c__law_beaters : PySem.W.codeIn K cd__law_beaters "_law_beaters" = true)
  (k__law_beaters : PySem.W.keepIn K (.ref f__law_beaters) = true)
  (a_check_orders : PySem.W.nsIn K mainGlobals "check_orders" = some (some (.ref f_check_orders)))
  (l_check_orders : K.lookup f_check_orders = some ⟨oc_check_orders, od_check_orders, .func (PySem.W.fnOf "check_orders" "check_orders" (defArgs s_check_orders) (defBody s_check_orders) (defScope s_check_orders) .none kV_check_orders dc_check_orders pm_check_orders an_check_orders cd_check_orders ct_check_orders), sl_check_orders⟩)
  (c_check_orders : PySem.W.codeIn K cd_check_orders "check_orders" = true)
  (k_check_orders : PySem.W.keepIn K (.ref f_check_orders) = true)
  (a__law_row : PySem.W.nsIn K mainGlobals "_law_row" = some (some (.ref f__law_row)))
  (l__law_row : K.lookup f__law_row = some ⟨oc__law_row, od__law_row, .func (PySem.W.fnOf "_law_row" "_law_row" (defArgs s__law_row) (defBody s__law_row) (defScope s__law_row) .none kV__law_row dc__law_row pm__law_row an__law_row cd__law_row ct__law_row), sl__law_row⟩)
  (c__law_row : PySem.W.codeIn K cd__law_row "_law_row" = true)
  (k__law_row : PySem.W.keepIn K (.ref f__law_row) = true)
  (a__law_rows : PySem.W.nsIn K mainGlobals "_law_rows" = some (some (.ref f__law_rows)))
  (l__law_rows : K.lookup f__law_rows = some ⟨oc__law_rows, od__law_rows, .func (PySem.W.fnOf "_law_rows" "_law_rows" (defArgs s__law_rows) (defBody s__law_rows) (defScope s__law_rows) .none kV__law_rows dc__law_rows pm__law_rows an__law_rows cd__law_rows ct__law_rows), sl__law_rows⟩)
  (c__law_rows : PySem.W.codeIn K cd__law_rows "_law_rows" = true)
  (k__law_rows : PySem.W.keepIn K (.ref f__law_rows) = true)
  (a_full_orders : PySem.W.nsIn K mainGlobals "full_orders" = some (some (.ref f_full_orders)))
  (l_full_orders : K.lookup f_full_orders = some ⟨oc_full_orders, od_full_orders, .func (PySem.W.fnOf "full_orders" "full_orders" (defArgs s_full_orders) (defBody s_full_orders) (defScope s_full_orders) .none kV_full_orders dc_full_orders pm_full_orders an_full_orders cd_full_orders ct_full_orders), sl_full_orders⟩)
  (c_full_orders : PySem.W.codeIn K cd_full_orders "full_orders" = true)
  (k_full_orders : PySem.W.keepIn K (.ref f_full_orders) = true)
  (a_first_of : PySem.W.nsIn K mainGlobals "first_of" = some (some (.ref f_first_of)))
  (l_first_of : K.lookup f_first_of = some ⟨oc_first_of, od_first_of, .func (PySem.W.fnOf "first_of" "first_of" (defArgs s_first_of) (defBody s_first_of) (defScope s_first_of) .none kV_first_of dc_first_of pm_first_of an_first_of cd_first_of ct_first_of), sl_first_of⟩)
  (c_first_of : PySem.W.codeIn K cd_first_of "first_of" = true)
  (k_first_of : PySem.W.keepIn K (.ref f_first_of) = true)
  (a_places_above : PySem.W.nsIn K mainGlobals "places_above" = some (some (.ref f_places_above)))
  (l_places_above : K.lookup f_places_above = some ⟨oc_places_above, od_places_above, .func (PySem.W.fnOf "places_above" "places_above" (defArgs s_places_above) (defBody s_places_above) (defScope s_places_above) .none kV_places_above dc_places_above pm_places_above an_places_above cd_places_above ct_places_above), sl_places_above⟩)
  (c_places_above : PySem.W.codeIn K cd_places_above "places_above" = true)
  (k_places_above : PySem.W.keepIn K (.ref f_places_above) = true)
  (a_above_in_all : PySem.W.nsIn K mainGlobals "above_in_all" = some (some (.ref f_above_in_all)))
  (l_above_in_all : K.lookup f_above_in_all = some ⟨oc_above_in_all, od_above_in_all, .func (PySem.W.fnOf "above_in_all" "above_in_all" (defArgs s_above_in_all) (defBody s_above_in_all) (defScope s_above_in_all) .none kV_above_in_all dc_above_in_all pm_above_in_all an_above_in_all cd_above_in_all ct_above_in_all), sl_above_in_all⟩)
  (c_above_in_all : PySem.W.codeIn K cd_above_in_all "above_in_all" = true)
  (k_above_in_all : PySem.W.keepIn K (.ref f_above_in_all) = true)
  (a_beaters : PySem.W.nsIn K mainGlobals "beaters" = some (some (.ref f_beaters)))
  (l_beaters : K.lookup f_beaters = some ⟨oc_beaters, od_beaters, .func (PySem.W.fnOf "beaters" "beaters" (defArgs s_beaters) (defBody s_beaters) (defScope s_beaters) .none kV_beaters dc_beaters pm_beaters an_beaters cd_beaters ct_beaters), sl_beaters⟩)
  (c_beaters : PySem.W.codeIn K cd_beaters "beaters" = true)
  (k_beaters : PySem.W.keepIn K (.ref f_beaters) = true)
  (a_least_place : PySem.W.nsIn K mainGlobals "least_place" = some (some (.ref f_least_place)))
  (l_least_place : K.lookup f_least_place = some ⟨oc_least_place, od_least_place, .func (PySem.W.fnOf "least_place" "least_place" (defArgs s_least_place) (defBody s_least_place) (defScope s_least_place) .none kV_least_place dc_least_place pm_least_place an_least_place cd_least_place ct_least_place), sl_least_place⟩)
  (c_least_place : PySem.W.codeIn K cd_least_place "least_place" = true)
  (k_least_place : PySem.W.keepIn K (.ref f_least_place) = true)
  (a__law_one_room : PySem.W.nsIn K mainGlobals "_law_one_room" = some (some (.ref f__law_one_room)))
  (l__law_one_room : K.lookup f__law_one_room = some ⟨oc__law_one_room, od__law_one_room, .func (PySem.W.fnOf "_law_one_room" "_law_one_room" (defArgs s__law_one_room) (defBody s__law_one_room) (defScope s__law_one_room) .none kV__law_one_room dc__law_one_room pm__law_one_room an__law_one_room cd__law_one_room ct__law_one_room), sl__law_one_room⟩)
  (c__law_one_room : PySem.W.codeIn K cd__law_one_room "_law_one_room" = true)
  (k__law_one_room : PySem.W.keepIn K (.ref f__law_one_room) = true)
  (a__law_by_bits : PySem.W.nsIn K mainGlobals "_law_by_bits" = some (some (.ref f__law_by_bits)))
  (l__law_by_bits : K.lookup f__law_by_bits = some ⟨oc__law_by_bits, od__law_by_bits, .func (PySem.W.fnOf "_law_by_bits" "_law_by_bits" (defArgs s__law_by_bits) (defBody s__law_by_bits) (defScope s__law_by_bits) .none kV__law_by_bits dc__law_by_bits pm__law_by_bits an__law_by_bits cd__law_by_bits ct__law_by_bits), sl__law_by_bits⟩)
  (c__law_by_bits : PySem.W.codeIn K cd__law_by_bits "_law_by_bits" = true)
  (k__law_by_bits : PySem.W.keepIn K (.ref f__law_by_bits) = true)
  (a__law_some_rooms : PySem.W.nsIn K mainGlobals "_law_some_rooms" = some (some (.ref f__law_some_rooms)))
  (l__law_some_rooms : K.lookup f__law_some_rooms = some ⟨oc__law_some_rooms, od__law_some_rooms, .func (PySem.W.fnOf "_law_some_rooms" "_law_some_rooms" (defArgs s__law_some_rooms) (defBody s__law_some_rooms) (defScope s__law_some_rooms) .none kV__law_some_rooms dc__law_some_rooms pm__law_some_rooms an__law_some_rooms cd__law_some_rooms ct__law_some_rooms), sl__law_some_rooms⟩)
  (c__law_some_rooms : PySem.W.codeIn K cd__law_some_rooms "_law_some_rooms" = true)
  (k__law_some_rooms : PySem.W.keepIn K (.ref f__law_some_rooms) = true)
  (a_subsets : PySem.W.nsIn K mainGlobals "subsets" = some (some (.ref f_subsets)))
  (l_subsets : K.lookup f_subsets = some ⟨oc_subsets, od_subsets, .func (PySem.W.fnOf "subsets" "subsets" (defArgs s_subsets) (defBody s_subsets) (defScope s_subsets) .none kV_subsets dc_subsets pm_subsets an_subsets cd_subsets ct_subsets), sl_subsets⟩)
  (c_subsets : PySem.W.codeIn K cd_subsets "subsets" = true)
  (k_subsets : PySem.W.keepIn K (.ref f_subsets) = true)
  (a_unbeaten_rooms : PySem.W.nsIn K mainGlobals "unbeaten_rooms" = some (some (.ref f_unbeaten_rooms)))
  (l_unbeaten_rooms : K.lookup f_unbeaten_rooms = some ⟨oc_unbeaten_rooms, od_unbeaten_rooms, .func (PySem.W.fnOf "unbeaten_rooms" "unbeaten_rooms" (defArgs s_unbeaten_rooms) (defBody s_unbeaten_rooms) (defScope s_unbeaten_rooms) .none kV_unbeaten_rooms dc_unbeaten_rooms pm_unbeaten_rooms an_unbeaten_rooms cd_unbeaten_rooms ct_unbeaten_rooms), sl_unbeaten_rooms⟩)
  (c_unbeaten_rooms : PySem.W.codeIn K cd_unbeaten_rooms "unbeaten_rooms" = true)
  (k_unbeaten_rooms : PySem.W.keepIn K (.ref f_unbeaten_rooms) = true)
  (a_room_fault : PySem.W.nsIn K mainGlobals "room_fault" = some (some (.ref f_room_fault)))
  (l_room_fault : K.lookup f_room_fault = some ⟨oc_room_fault, od_room_fault, .func (PySem.W.fnOf "room_fault" "room_fault" (defArgs s_room_fault) (defBody s_room_fault) (defScope s_room_fault) .none kV_room_fault dc_room_fault pm_room_fault an_room_fault cd_room_fault ct_room_fault), sl_room_fault⟩)
  (c_room_fault : PySem.W.codeIn K cd_room_fault "room_fault" = true)
  (k_room_fault : PySem.W.keepIn K (.ref f_room_fault) = true)
  (a_Book___init__ : PySem.W.findIn K (.ref C_Book) "__init__" = some (some (.ref f_Book___init__)))
  (i_Book___init__ : PySem.W.isFn K (.ref f_Book___init__) = true)
  (l_Book___init__ : K.lookup f_Book___init__ = some ⟨oc_Book___init__, od_Book___init__, .func (PySem.W.fnOf "__init__" "Book.__init__" (defArgs s_Book___init__) (defBody s_Book___init__) (defScope s_Book___init__) .none kV_Book___init__ dc_Book___init__ pm_Book___init__ an_Book___init__ cd_Book___init__ ct_Book___init__), sl_Book___init__⟩)
  (c_Book___init__ : PySem.W.codeIn K cd_Book___init__ "Book.__init__" = true)
  (k_Book___init__ : PySem.W.keepIn K (.ref f_Book___init__) = true)
  (a_own_places : PySem.W.nsIn K mainGlobals "own_places" = some (some (.ref f_own_places)))
  (l_own_places : K.lookup f_own_places = some ⟨oc_own_places, od_own_places, .func (PySem.W.fnOf "own_places" "own_places" (defArgs s_own_places) (defBody s_own_places) (defScope s_own_places) .none kV_own_places dc_own_places pm_own_places an_own_places cd_own_places ct_own_places), sl_own_places⟩)
  (c_own_places : PySem.W.codeIn K cd_own_places "own_places" = true)
  (k_own_places : PySem.W.keepIn K (.ref f_own_places) = true)
  (a_unbeaten_book : PySem.W.nsIn K mainGlobals "unbeaten_book" = some (some (.ref f_unbeaten_book)))
  (l_unbeaten_book : K.lookup f_unbeaten_book = some ⟨oc_unbeaten_book, od_unbeaten_book, .func (PySem.W.fnOf "unbeaten_book" "unbeaten_book" (defArgs s_unbeaten_book) (defBody s_unbeaten_book) (defScope s_unbeaten_book) .none kV_unbeaten_book dc_unbeaten_book pm_unbeaten_book an_unbeaten_book cd_unbeaten_book ct_unbeaten_book), sl_unbeaten_book⟩)
  (c_unbeaten_book : PySem.W.codeIn K cd_unbeaten_book "unbeaten_book" = true)
  (k_unbeaten_book : PySem.W.keepIn K (.ref f_unbeaten_book) = true)
  (a__law_book : PySem.W.nsIn K mainGlobals "_law_book" = some (some (.ref f__law_book)))
  (l__law_book : K.lookup f__law_book = some ⟨oc__law_book, od__law_book, .func (PySem.W.fnOf "_law_book" "_law_book" (defArgs s__law_book) (defBody s__law_book) (defScope s__law_book) .none kV__law_book dc__law_book pm__law_book an__law_book cd__law_book ct__law_book), sl__law_book⟩)
  (c__law_book : PySem.W.codeIn K cd__law_book "_law_book" = true)
  (k__law_book : PySem.W.keepIn K (.ref f__law_book) = true)
  (a_law : PySem.W.nsIn K mainGlobals "law" = some (some (.ref f_law)))
  (l_law : K.lookup f_law = some ⟨oc_law, od_law, .func (PySem.W.fnOf "law" "law" (defArgs s_law) (defBody s_law) (defScope s_law) .none kV_law dc_law pm_law an_law cd_law ct_law), sl_law⟩)
  (c_law : PySem.W.codeIn K cd_law "law" = true)
  (k_law : PySem.W.keepIn K (.ref f_law) = true)
  (b_abs : PySem.W.nsIn K mainGlobals "abs" = some none)
  (b_bool : PySem.W.nsIn K mainGlobals "bool" = some none)
  (b_enumerate : PySem.W.nsIn K mainGlobals "enumerate" = some none)
  (b_int : PySem.W.nsIn K mainGlobals "int" = some none)
  (b_isinstance : PySem.W.nsIn K mainGlobals "isinstance" = some none)
  (b_len : PySem.W.nsIn K mainGlobals "len" = some none)
  (b_list : PySem.W.nsIn K mainGlobals "list" = some none)
  (b_min : PySem.W.nsIn K mainGlobals "min" = some none)
  (b_range : PySem.W.nsIn K mainGlobals "range" = some none)
  (b_set : PySem.W.nsIn K mainGlobals "set" = some none)
  (b_sorted : PySem.W.nsIn K mainGlobals "sorted" = some none)
  (b_tuple : PySem.W.nsIn K mainGlobals "tuple" = some none)
  (k_MOST_ORDERS : PySem.W.nsIn K mainGlobals "MOST_ORDERS" = some (some (.int 4 t_MOST_ORDERS)))
  (k_MOST_THINGS : PySem.W.nsIn K mainGlobals "MOST_THINGS" = some (some (.int 8 t_MOST_THINGS)))
  (pg_Book : PySem.W.plainGet K C_Book Str.empty = true)
  (hd_Book : PySem.W.hasDictIn K C_Book = true)
  (po_Book : PySem.W.plainOver K C_Book = true)
  (sa_Book : PySem.W.findIn K (.ref C_Book) "__setattr__" = some (some (.builtin "object.__setattr__")))
  (mk_Book : PySem.W.makesIn K C_Book = true)
  (kc_Book : PySem.W.keepIn K (.ref C_Book) = true)
  (n_Book_places : PySem.W.findIn K (.ref C_Book) "places" = some none)
  (n_Book_rooms : PySem.W.findIn K (.ref C_Book) "rooms" = some none)
  (n_Book_size : PySem.W.findIn K (.ref C_Book) "size" = some none)
  (rd_Book : PySem.W.readsIn K C_Book (.type "type") = true)
  (ga_Book : PySem.W.specialIn K (.ref C_Book) "__getattribute__" = some (some (.builtin "type.__getattribute__")))
  (cv_Book_MOST_PLACES : PySem.W.findCls K (.ref C_Book) (.type "type") "MOST_PLACES" = some (.val (.int 12 t_Book_MOST_PLACES)))
  (oa_Book : PySem.W.findIn K (.ref C_Book) "__class__" = some (some (.builtin "object.__class__")))
  (on_Book : PySem.W.specialIn K (.builtin "object.__class__") "__get__" = some (some (.builtin "getset_descriptor.__get__")))
  (ot_Book : PySem.W.takesIn K (.builtin "object.__class__") = some true)
  (om_Book : PySem.W.mroIn K C_Book (.type "object") = some true) :
  ∃ fd : FuncData, (∀ (s : Shared) (v : Value), BindsTo s fd ⟨[v], []⟩ [("_law_script", v)]) ∧ ∀ base : Heap, K.In base → base.Ns mainGlobals mg → FnOk l.prog w K mg base (L2.CX l.prog w) 11 fa fd ["_law_script"] (spLaw K) := by
  have e := hfa.symm.trans (PySem.W.mg_of X G a_law)
  cases e
  have F__law_cell := fun_mk (st := s__law_cell) l__law_cell c__law_cell k__law_cell
  have y__law_cell := F__law_cell.binds (ps := ["_law_script", "_law_k"]) fun _ _ _ _ _ _ us hl => match us, hl with | [_, _], _ => rfl
  have F__law_order := fun_mk (st := s__law_order) l__law_order c__law_order k__law_order
  have y__law_order := F__law_order.binds (ps := ["_law_cell_here", "_law_v"]) fun _ _ _ _ _ _ us hl => match us, hl with | [_, _], _ => rfl
  have F__law_full := fun_mk (st := s__law_full) l__law_full c__law_full k__law_full
  have y__law_full := F__law_full.binds (ps := ["_law_orders", "_law_v", "_law_k"]) fun _ _ _ _ _ _ us hl => match us, hl with | [_, _, _], _ => rfl
  have F__law_ranks := fun_mk (st := s__law_ranks) l__law_ranks c__law_ranks k__law_ranks
  have y__law_ranks := F__law_ranks.binds (ps := ["_law_orders", "_law_v"]) fun _ _ _ _ _ _ us hl => match us, hl with | [_, _], _ => rfl
  have F__law_rooms := fun_mk (st := s__law_rooms) l__law_rooms c__law_rooms k__law_rooms
  have y__law_rooms := F__law_rooms.binds (ps := ["_law_items", "_law_size"]) fun _ _ _ _ _ _ us hl => match us, hl with | [_, _], _ => rfl
  have F__law_beaters := fun_mk (st := s__law_beaters) l__law_beaters c__law_beaters k__law_beaters
  have y__law_beaters := F__law_beaters.binds (ps := ["_law_ranks_here", "_law_room"]) fun _ _ _ _ _ _ us hl => match us, hl with | [_, _], _ => rfl
  have F_check_orders := fun_mk (st := s_check_orders) l_check_orders c_check_orders k_check_orders
  have y_check_orders := F_check_orders.binds (ps := ["orders"]) fun _ _ _ _ _ _ us hl => match us, hl with | [_], _ => rfl
  have F__law_row := fun_mk (st := s__law_row) l__law_row c__law_row k__law_row
  have y__law_row := F__law_row.binds (ps := ["_law_actual", "_law_due"]) fun _ _ _ _ _ _ us hl => match us, hl with | [_, _], _ => rfl
  have F__law_rows := fun_mk (st := s__law_rows) l__law_rows c__law_rows k__law_rows
  have y__law_rows := F__law_rows.binds (ps := ["_law_actual", "_law_due"]) fun _ _ _ _ _ _ us hl => match us, hl with | [_, _], _ => rfl
  have F_full_orders := fun_mk (st := s_full_orders) l_full_orders c_full_orders k_full_orders
  have y_full_orders := F_full_orders.binds (ps := ["orders"]) fun _ _ _ _ _ _ us hl => match us, hl with | [_], _ => rfl
  have F_first_of := fun_mk (st := s_first_of) l_first_of c_first_of k_first_of
  have y_first_of := F_first_of.binds (ps := ["row", "room"]) fun _ _ _ _ _ _ us hl => match us, hl with | [_, _], _ => rfl
  have F_places_above := fun_mk (st := s_places_above) l_places_above c_places_above k_places_above
  have y_places_above := F_places_above.binds (ps := ["row", "room"]) fun _ _ _ _ _ _ us hl => match us, hl with | [_, _], _ => rfl
  have F_above_in_all := fun_mk (st := s_above_in_all) l_above_in_all c_above_in_all k_above_in_all
  have y_above_in_all := F_above_in_all.binds (ps := ["rows", "room"]) fun _ _ _ _ _ _ us hl => match us, hl with | [_, _], _ => rfl
  have F_beaters := fun_mk (st := s_beaters) l_beaters c_beaters k_beaters
  have y_beaters := F_beaters.binds (ps := ["orders", "room"]) fun _ _ _ _ _ _ us hl => match us, hl with | [_, _], _ => rfl
  have F_least_place := fun_mk (st := s_least_place) l_least_place c_least_place k_least_place
  have y_least_place := F_least_place.binds (ps := ["orders", "at", "room"]) fun _ _ _ _ _ _ us hl => match us, hl with | [_, _, _], _ => rfl
  have F__law_one_room := fun_mk (st := s__law_one_room) l__law_one_room c__law_one_room k__law_one_room
  have y__law_one_room := F__law_one_room.binds (ps := ["_law_given", "_law_ranks_here", "_law_room"]) fun _ _ _ _ _ _ us hl => match us, hl with | [_, _, _], _ => rfl
  have F__law_by_bits := fun_mk (st := s__law_by_bits) l__law_by_bits c__law_by_bits k__law_by_bits
  have y__law_by_bits := F__law_by_bits.binds (ps := ["_law_n", "_law_cell_here"]) fun _ _ _ _ _ _ us hl => match us, hl with | [_, _], _ => rfl
  have F__law_some_rooms := fun_mk (st := s__law_some_rooms) l__law_some_rooms c__law_some_rooms k__law_some_rooms
  have y__law_some_rooms := F__law_some_rooms.binds (ps := ["_law_given", "_law_ranks_here", "_law_rooms_here", "_law_script"]) fun _ _ _ _ _ _ us hl => match us, hl with | [_, _, _, _], _ => rfl
  have F_subsets := fun_mk (st := s_subsets) l_subsets c_subsets k_subsets
  have y_subsets := F_subsets.binds (ps := ["items", "size"]) fun _ _ _ _ _ _ us hl => match us, hl with | [_, _], _ => rfl
  have F_unbeaten_rooms := fun_mk (st := s_unbeaten_rooms) l_unbeaten_rooms c_unbeaten_rooms k_unbeaten_rooms
  have y_unbeaten_rooms := F_unbeaten_rooms.binds (ps := ["orders"]) fun _ _ _ _ _ _ us hl => match us, hl with | [_], _ => rfl
  have F_room_fault := fun_mk (st := s_room_fault) l_room_fault c_room_fault k_room_fault
  have y_room_fault := F_room_fault.binds (ps := ["places", "size", "room"]) fun _ _ _ _ _ _ us hl => match us, hl with | [_, _, _], _ => rfl
  have F_Book___init__ := fun_mk (st := s_Book___init__) l_Book___init__ c_Book___init__ k_Book___init__
  have y_Book___init__ := F_Book___init__.binds (ps := ["self", "places", "size", "rooms"]) fun _ _ _ _ _ _ us hl => match us, hl with | [_, _, _, _], _ => rfl
  have F_own_places := fun_mk (st := s_own_places) l_own_places c_own_places k_own_places
  have y_own_places := F_own_places.binds (ps := ["orders"]) fun _ _ _ _ _ _ us hl => match us, hl with | [_], _ => rfl
  have F_unbeaten_book := fun_mk (st := s_unbeaten_book) l_unbeaten_book c_unbeaten_book k_unbeaten_book
  have y_unbeaten_book := F_unbeaten_book.binds (ps := ["orders"]) fun _ _ _ _ _ _ us hl => match us, hl with | [_], _ => rfl
  have F__law_book := fun_mk (st := s__law_book) l__law_book c__law_book k__law_book
  have y__law_book := F__law_book.binds (ps := ["_law_given", "_law_n", "_law_d", "_law_due"]) fun _ _ _ _ _ _ us hl => match us, hl with | [_, _, _, _], _ => rfl
  have F_law := fun_mk (st := s_law) l_law c_law k_law
  have y_law := F_law.binds (ps := ["_law_script"]) fun _ _ _ _ _ _ us hl => match us, hl with | [_], _ => rfl
  let T : Txt K mg := {
    a__law_cell := _,
    f__law_cell := _,
    F__law_cell := F__law_cell,
    y__law_cell := y__law_cell,
    m__law_cell := PySem.W.mg_of X G a__law_cell,
    k__law_cell := k__law_cell,
    a__law_order := _,
    f__law_order := _,
    F__law_order := F__law_order,
    y__law_order := y__law_order,
    m__law_order := PySem.W.mg_of X G a__law_order,
    k__law_order := k__law_order,
    a__law_full := _,
    f__law_full := _,
    F__law_full := F__law_full,
    y__law_full := y__law_full,
    m__law_full := PySem.W.mg_of X G a__law_full,
    k__law_full := k__law_full,
    a__law_ranks := _,
    f__law_ranks := _,
    F__law_ranks := F__law_ranks,
    y__law_ranks := y__law_ranks,
    m__law_ranks := PySem.W.mg_of X G a__law_ranks,
    k__law_ranks := k__law_ranks,
    a__law_rooms := _,
    f__law_rooms := _,
    F__law_rooms := F__law_rooms,
    y__law_rooms := y__law_rooms,
    m__law_rooms := PySem.W.mg_of X G a__law_rooms,
    k__law_rooms := k__law_rooms,
    a__law_beaters := _,
    f__law_beaters := _,
    F__law_beaters := F__law_beaters,
    y__law_beaters := y__law_beaters,
    m__law_beaters := PySem.W.mg_of X G a__law_beaters,
    k__law_beaters := k__law_beaters,
    a_check_orders := _,
    f_check_orders := _,
    F_check_orders := F_check_orders,
    y_check_orders := y_check_orders,
    m_check_orders := PySem.W.mg_of X G a_check_orders,
    k_check_orders := k_check_orders,
    a__law_row := _,
    f__law_row := _,
    F__law_row := F__law_row,
    y__law_row := y__law_row,
    m__law_row := PySem.W.mg_of X G a__law_row,
    k__law_row := k__law_row,
    a__law_rows := _,
    f__law_rows := _,
    F__law_rows := F__law_rows,
    y__law_rows := y__law_rows,
    m__law_rows := PySem.W.mg_of X G a__law_rows,
    k__law_rows := k__law_rows,
    a_full_orders := _,
    f_full_orders := _,
    F_full_orders := F_full_orders,
    y_full_orders := y_full_orders,
    m_full_orders := PySem.W.mg_of X G a_full_orders,
    k_full_orders := k_full_orders,
    a_first_of := _,
    f_first_of := _,
    F_first_of := F_first_of,
    y_first_of := y_first_of,
    m_first_of := PySem.W.mg_of X G a_first_of,
    k_first_of := k_first_of,
    a_places_above := _,
    f_places_above := _,
    F_places_above := F_places_above,
    y_places_above := y_places_above,
    m_places_above := PySem.W.mg_of X G a_places_above,
    k_places_above := k_places_above,
    a_above_in_all := _,
    f_above_in_all := _,
    F_above_in_all := F_above_in_all,
    y_above_in_all := y_above_in_all,
    m_above_in_all := PySem.W.mg_of X G a_above_in_all,
    k_above_in_all := k_above_in_all,
    a_beaters := _,
    f_beaters := _,
    F_beaters := F_beaters,
    y_beaters := y_beaters,
    m_beaters := PySem.W.mg_of X G a_beaters,
    k_beaters := k_beaters,
    a_least_place := _,
    f_least_place := _,
    F_least_place := F_least_place,
    y_least_place := y_least_place,
    m_least_place := PySem.W.mg_of X G a_least_place,
    k_least_place := k_least_place,
    a__law_one_room := _,
    f__law_one_room := _,
    F__law_one_room := F__law_one_room,
    y__law_one_room := y__law_one_room,
    m__law_one_room := PySem.W.mg_of X G a__law_one_room,
    k__law_one_room := k__law_one_room,
    a__law_by_bits := _,
    f__law_by_bits := _,
    F__law_by_bits := F__law_by_bits,
    y__law_by_bits := y__law_by_bits,
    m__law_by_bits := PySem.W.mg_of X G a__law_by_bits,
    k__law_by_bits := k__law_by_bits,
    a__law_some_rooms := _,
    f__law_some_rooms := _,
    F__law_some_rooms := F__law_some_rooms,
    y__law_some_rooms := y__law_some_rooms,
    m__law_some_rooms := PySem.W.mg_of X G a__law_some_rooms,
    k__law_some_rooms := k__law_some_rooms,
    a_subsets := _,
    f_subsets := _,
    F_subsets := F_subsets,
    y_subsets := y_subsets,
    m_subsets := PySem.W.mg_of X G a_subsets,
    k_subsets := k_subsets,
    a_unbeaten_rooms := _,
    f_unbeaten_rooms := _,
    F_unbeaten_rooms := F_unbeaten_rooms,
    y_unbeaten_rooms := y_unbeaten_rooms,
    m_unbeaten_rooms := PySem.W.mg_of X G a_unbeaten_rooms,
    k_unbeaten_rooms := k_unbeaten_rooms,
    a_room_fault := _,
    f_room_fault := _,
    F_room_fault := F_room_fault,
    y_room_fault := y_room_fault,
    m_room_fault := PySem.W.mg_of X G a_room_fault,
    k_room_fault := k_room_fault,
    a_Book___init__ := _,
    f_Book___init__ := _,
    F_Book___init__ := F_Book___init__,
    y_Book___init__ := y_Book___init__,
    a_own_places := _,
    f_own_places := _,
    F_own_places := F_own_places,
    y_own_places := y_own_places,
    m_own_places := PySem.W.mg_of X G a_own_places,
    k_own_places := k_own_places,
    a_unbeaten_book := _,
    f_unbeaten_book := _,
    F_unbeaten_book := F_unbeaten_book,
    y_unbeaten_book := y_unbeaten_book,
    m_unbeaten_book := PySem.W.mg_of X G a_unbeaten_book,
    k_unbeaten_book := k_unbeaten_book,
    a__law_book := _,
    f__law_book := _,
    F__law_book := F__law_book,
    y__law_book := y__law_book,
    m__law_book := PySem.W.mg_of X G a__law_book,
    k__law_book := k__law_book,
    a_law := _,
    f_law := _,
    F_law := F_law,
    y_law := y_law,
    m_law := PySem.W.mg_of X G a_law,
    k_law := k_law,
    b_abs := PySem.W.mg_none_of X G b_abs,
    b_bool := PySem.W.mg_none_of X G b_bool,
    b_enumerate := PySem.W.mg_none_of X G b_enumerate,
    b_int := PySem.W.mg_none_of X G b_int,
    b_isinstance := PySem.W.mg_none_of X G b_isinstance,
    b_len := PySem.W.mg_none_of X G b_len,
    b_list := PySem.W.mg_none_of X G b_list,
    b_min := PySem.W.mg_none_of X G b_min,
    b_range := PySem.W.mg_none_of X G b_range,
    b_set := PySem.W.mg_none_of X G b_set,
    b_sorted := PySem.W.mg_none_of X G b_sorted,
    b_tuple := PySem.W.mg_none_of X G b_tuple,
    t_MOST_ORDERS := _,
    k_MOST_ORDERS := PySem.W.mg_of X G k_MOST_ORDERS,
    t_MOST_THINGS := _,
    k_MOST_THINGS := PySem.W.mg_of X G k_MOST_THINGS,
    CBook := C_Book,
    m_Book := PySem.W.mg_of X G m_Book,
    cl_Book := ⟨pg_Book, hd_Book, po_Book, sa_Book⟩,
    M_Book := ⟨mk_Book, a_Book___init__, i_Book___init__, kc_Book⟩,
    n_Book_places := n_Book_places,
    n_Book_rooms := n_Book_rooms,
    n_Book_size := n_Book_size,
    mc_Book := .type "type",
    cr_Book := ⟨rd_Book, ga_Book⟩,
    u_Book_MOST_PLACES := _,
    c_Book_MOST_PLACES := ⟨cv_Book_MOST_PLACES, ⟨_, rfl⟩⟩,
    o_Book := ⟨⟨pg_Book, hd_Book, po_Book, sa_Book⟩, oa_Book, on_Book, ot_Book, om_Book⟩ }
  exact ⟨_, fun s v => .of_eq rfl, fun base _ _ => (d_law (P := l.prog) (w := w) (base := base) T).imp (sp_of (law_true T.CBook))⟩
theorem walk {l : PySem.W.OpenLaw} {q : Program} {loose : List Str} {XP : (Str → Option Value) → Heap → Prop} {YP : World → Heap → Prop} {d : DefRec} {K : Params → PySem.W.Frag} (hn : l.most = some 63) (hdf : d.params.defaults = [])
    (hY : ∀ (w : World) (h : Heap), YP w h → (K w.params).In h)
    (F : ∀ (w : World) (mg : Str → Option Value) (fa : Addr) (h : Heap), (K w.params).In h → h.Ns mainGlobals mg → mg d.name = some (.ref fa) →
      ∃ fd : FuncData, (∀ (s : Shared) (u : Value), BindsTo s fd ⟨[u], []⟩ [("_law_script", u)]) ∧ ∀ base : Heap, (K w.params).In base → base.Ns mainGlobals mg → FnOk l.prog w (K w.params) mg base (L2.CX l.prog w) 11 fa fd ["_law_script"] (spLaw (K w.params))) :
    PySem.W.WalkO q loose XP YP l.row.toRowW d [] (fun f vs => PySem.call f vs) :=
  L2.walk_of (n := 63) (k := 11) (x := "_law_script") (CX := fun w => L2.CX l.prog w) (sp := fun w => spLaw (K w.params)) hn (by decide) hdf ⟨rfl, by decide, by decide⟩ hY F (fun _ _ a ns hl _ hS => ⟨a, ns, rfl, hS, hl, fun _ => rfl⟩) fun w H s e s' ⟨_, _, _, _, _, _, _, _, _, _, _, _, z⟩ => z
end K40
end

open PySem PySem.W PyProof.Rows in
set_option maxRecDepth 100000 in
set_option maxHeartbeats 0 in
theorem PySem.Challenge.cw_neveralone_k40_unbeaten_by_definition_holds : PySem.Challenge.rw_neveralone_k40_unbeaten_by_definition.Holds := by
  w_on; o_law; k_head; (case hw => w_witness2)
  k_fill
  refine K40.walk (l := PySem.Challenge.rw_neveralone_k40_unbeaten_by_definition) rfl rfl (fun w h Y => PySem.W.kIn_of Y) ?F
  case F =>
    intro w mg fa h KX G hmg
    refine' K40.all_mk KX G hmg K40.law_true ?m_Book ?a__law_cell ?l__law_cell ?c__law_cell ?k__law_cell ?a__law_order ?l__law_order ?c__law_order ?k__law_order ?a__law_full ?l__law_full ?c__law_full ?k__law_full ?a__law_ranks ?l__law_ranks ?c__law_ranks ?k__law_ranks ?a__law_rooms ?l__law_rooms ?c__law_rooms ?k__law_rooms ?a__law_beaters ?l__law_beaters ?c__law_beaters ?k__law_beaters ?a_check_orders ?l_check_orders ?c_check_orders ?k_check_orders ?a__law_row ?l__law_row ?c__law_row ?k__law_row ?a__law_rows ?l__law_rows ?c__law_rows ?k__law_rows ?a_full_orders ?l_full_orders ?c_full_orders ?k_full_orders ?a_first_of ?l_first_of ?c_first_of ?k_first_of ?a_places_above ?l_places_above ?c_places_above ?k_places_above ?a_above_in_all ?l_above_in_all ?c_above_in_all ?k_above_in_all ?a_beaters ?l_beaters ?c_beaters ?k_beaters ?a_least_place ?l_least_place ?c_least_place ?k_least_place ?a__law_one_room ?l__law_one_room ?c__law_one_room ?k__law_one_room ?a__law_by_bits ?l__law_by_bits ?c__law_by_bits ?k__law_by_bits ?a__law_some_rooms ?l__law_some_rooms ?c__law_some_rooms ?k__law_some_rooms ?a_subsets ?l_subsets ?c_subsets ?k_subsets ?a_unbeaten_rooms ?l_unbeaten_rooms ?c_unbeaten_rooms ?k_unbeaten_rooms ?a_room_fault ?l_room_fault ?c_room_fault ?k_room_fault ?a_Book___init__ ?i_Book___init__ ?l_Book___init__ ?c_Book___init__ ?k_Book___init__ ?a_own_places ?l_own_places ?c_own_places ?k_own_places ?a_unbeaten_book ?l_unbeaten_book ?c_unbeaten_book ?k_unbeaten_book ?a__law_book ?l__law_book ?c__law_book ?k__law_book ?a_law ?l_law ?c_law ?k_law ?b_abs ?b_bool ?b_enumerate ?b_int ?b_isinstance ?b_len ?b_list ?b_min ?b_range ?b_set ?b_sorted ?b_tuple ?k_MOST_ORDERS ?k_MOST_THINGS ?pg_Book ?hd_Book ?po_Book ?sa_Book ?mk_Book ?kc_Book ?n_Book_places ?n_Book_rooms ?n_Book_size ?rd_Book ?ga_Book ?cv_Book_MOST_PLACES ?oa_Book ?on_Book ?ot_Book ?om_Book
    (case m_Book => k_is)
    (case a__law_cell => k_is)
    (case l__law_cell => k_is)
    (case c__law_cell => k_is)
    (case k__law_cell => k_is)
    (case a__law_order => k_is)
    (case l__law_order => k_is)
    (case c__law_order => k_is)
    (case k__law_order => k_is)
    (case a__law_full => k_is)
    (case l__law_full => k_is)
    (case c__law_full => k_is)
    (case k__law_full => k_is)
    (case a__law_ranks => k_is)
    (case l__law_ranks => k_is)
    (case c__law_ranks => k_is)
    (case k__law_ranks => k_is)
    (case a__law_rooms => k_is)
    (case l__law_rooms => k_is)
    (case c__law_rooms => k_is)
    (case k__law_rooms => k_is)
    (case a__law_beaters => k_is)
    (case l__law_beaters => k_is)
    (case c__law_beaters => k_is)
    (case k__law_beaters => k_is)
    (case a_check_orders => k_is)
    (case l_check_orders => k_is)
    (case c_check_orders => k_is)
    (case k_check_orders => k_is)
    (case a__law_row => k_is)
    (case l__law_row => k_is)
    (case c__law_row => k_is)
    (case k__law_row => k_is)
    (case a__law_rows => k_is)
    (case l__law_rows => k_is)
    (case c__law_rows => k_is)
    (case k__law_rows => k_is)
    (case a_full_orders => k_is)
    (case l_full_orders => k_is)
    (case c_full_orders => k_is)
    (case k_full_orders => k_is)
    (case a_first_of => k_is)
    (case l_first_of => k_is)
    (case c_first_of => k_is)
    (case k_first_of => k_is)
    (case a_places_above => k_is)
    (case l_places_above => k_is)
    (case c_places_above => k_is)
    (case k_places_above => k_is)
    (case a_above_in_all => k_is)
    (case l_above_in_all => k_is)
    (case c_above_in_all => k_is)
    (case k_above_in_all => k_is)
    (case a_beaters => k_is)
    (case l_beaters => k_is)
    (case c_beaters => k_is)
    (case k_beaters => k_is)
    (case a_least_place => k_is)
    (case l_least_place => k_is)
    (case c_least_place => k_is)
    (case k_least_place => k_is)
    (case a__law_one_room => k_is)
    (case l__law_one_room => k_is)
    (case c__law_one_room => k_is)
    (case k__law_one_room => k_is)
    (case a__law_by_bits => k_is)
    (case l__law_by_bits => k_is)
    (case c__law_by_bits => k_is)
    (case k__law_by_bits => k_is)
    (case a__law_some_rooms => k_is)
    (case l__law_some_rooms => k_is)
    (case c__law_some_rooms => k_is)
    (case k__law_some_rooms => k_is)
    (case a_subsets => k_is)
    (case l_subsets => k_is)
    (case c_subsets => k_is)
    (case k_subsets => k_is)
    (case a_unbeaten_rooms => k_is)
    (case l_unbeaten_rooms => k_is)
    (case c_unbeaten_rooms => k_is)
    (case k_unbeaten_rooms => k_is)
    (case a_room_fault => k_is)
    (case l_room_fault => k_is)
    (case c_room_fault => k_is)
    (case k_room_fault => k_is)
    (case a_Book___init__ => k_is)
    (case i_Book___init__ => k_is)
    (case l_Book___init__ => k_is)
    (case c_Book___init__ => k_is)
    (case k_Book___init__ => k_is)
    (case a_own_places => k_is)
    (case l_own_places => k_is)
    (case c_own_places => k_is)
    (case k_own_places => k_is)
    (case a_unbeaten_book => k_is)
    (case l_unbeaten_book => k_is)
    (case c_unbeaten_book => k_is)
    (case k_unbeaten_book => k_is)
    (case a__law_book => k_is)
    (case l__law_book => k_is)
    (case c__law_book => k_is)
    (case k__law_book => k_is)
    (case a_law => k_is)
    (case l_law => k_is)
    (case c_law => k_is)
    (case k_law => k_is)
    (case b_abs => k_is)
    (case b_bool => k_is)
    (case b_enumerate => k_is)
    (case b_int => k_is)
    (case b_isinstance => k_is)
    (case b_len => k_is)
    (case b_list => k_is)
    (case b_min => k_is)
    (case b_range => k_is)
    (case b_set => k_is)
    (case b_sorted => k_is)
    (case b_tuple => k_is)
    (case k_MOST_ORDERS => k_is)
    (case k_MOST_THINGS => k_is)
    (case pg_Book => k_is)
    (case hd_Book => k_is)
    (case po_Book => k_is)
    (case sa_Book => k_is)
    (case mk_Book => k_is)
    (case kc_Book => k_is)
    (case n_Book_places => k_is)
    (case n_Book_rooms => k_is)
    (case n_Book_size => k_is)
    (case rd_Book => k_is)
    (case ga_Book => k_is)
    (case cv_Book_MOST_PLACES => k_is)
    (case oa_Book => k_is)
    (case on_Book => k_is)
    (case ot_Book => k_is)
    (case om_Book => k_is)
