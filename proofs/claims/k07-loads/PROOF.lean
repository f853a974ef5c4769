import PyProof.Rows.All
import Wide.All
import OpenK.AllK
import Wide.FinOn
import PySem.Str
import HandS.ForMost
import HandS.Exc
import HandS.TryOnly
import HandS.ExcOwn
import HandS.WordsExc
import HandS.ExcInit
import HandS.ExcField
import HandS.Wide
import HandS.Gcd
import HandS.IsInst
import HandS.Flow
import HandS.Style
import HandS.Deep
import HandS.FStr
import HandS.Walk
import HandS.Defaults
import HandS.More
import HandS.Iter
import KE.GoesMore
import KE.GoesEnum
import HandS.Ends
import PySem.Challenge.RW_wherelaid_k07_whole_loads_and_their_cent
set_option Elab.async false
set_option linter.all false
set_option maxRecDepth 100000
set_option maxHeartbeats 4000000
/-! F1: pure data, the monad of runs, the combinators that a def's mirror is made of. Core Lean alone. -/
namespace FL
open PySem

/-- pure data: what a Python value is when one forgets where it stands -/
inductive D where
  | non | bl (b : Bool) | int (i : Int) | str (x : Str)
  | tup (xs : List D) | lst (xs : List D)
  /-- a list that is only read: the script, a module's -/
  | frz (xs : List D)
  | ins (c : Nat) (ns : List Str) (xs : List D)
  | hand
  deriving Inhabited

/-- the one list that is changed by defs that get it passed: what it holds -/
abbrev Wd := Option (List D)
inductive R (α : Type) where
  | ok (a : α) (w : Wd)
  | ex (c : Nat) (ns : List Str) (xs : List D) (w : Wd)
  | bad
def M (α : Type) := Wd → R α
namespace M
def ret {α : Type} (a : α) : M α := fun w => .ok a w
def bind {α β : Type} (m : M α) (f : α → M β) : M β := fun w =>
  match m w with
  | .ok a w' => f a w'
  | .ex c ns xs w' => .ex c ns xs w'
  | .bad => .bad
def fail {α : Type} : M α := fun _ => .bad
def raise {α : Type} (c : Nat) (ns : List Str) (xs : List D) : M α := fun w => .ex c ns xs w
def get : M Wd := fun w => .ok w w
def put (w : Wd) : M Unit := fun _ => .ok () w
end M
instance : Monad M where
  pure := M.ret
  bind := M.bind
section
variable {α β γ : Type}
theorem bind_def (m : M α) (f : α → M β) : m >>= f = M.bind m f := rfl
theorem pure_def (a : α) : (pure a : M α) = M.ret a := rfl
@[simp] theorem ret_bind (a : α) (f : α → M β) : M.bind (M.ret a) f = f a := rfl
@[simp] theorem fail_bind (f : α → M β) : M.bind (M.fail : M α) f = M.fail := rfl
@[simp] theorem raise_bind (c : Nat) (ns : List Str) (xs : List D) (f : α → M β) : M.bind (M.raise c ns xs : M α) f = M.raise c ns xs := rfl
@[simp] theorem bind_bind (m : M α) (f : α → M β) (g : β → M γ) : M.bind (M.bind m f) g = M.bind m fun a => M.bind (f a) g := by
  funext w; unfold M.bind; cases m w <;> rfl
theorem bind_ret (m : M α) : M.bind m M.ret = m := by
  funext w; unfold M.bind M.ret; cases m w <;> rfl
@[simp] theorem ret_ap (a : α) (w : Wd) : M.ret a w = .ok a w := rfl
@[simp] theorem fail_ap (w : Wd) : (M.fail : M α) w = .bad := rfl
@[simp] theorem raise_ap (c : Nat) (ns : List Str) (xs : List D) (w : Wd) : (M.raise c ns xs : M α) w = .ex c ns xs w := rfl
theorem bind_ap (m : M α) (f : α → M β) (w : Wd) : M.bind m f w = match m w with
  | .ok a w' => f a w' | .ex c ns xs w' => .ex c ns xs w' | .bad => .bad := rfl
@[simp] theorem ite_bind (p : Prop) [Decidable p] (a b : M α) (f : α → M β) : M.bind (if p then a else b) f = if p then M.bind a f else M.bind b f := by
  split <;> rfl
@[simp] theorem ite_ap (p : Prop) [Decidable p] (a b : M α) (w : Wd) : (if p then a else b) w = if p then a w else b w := by
  split <;> rfl
end

/-! ### slots -/
inductive Slot where
  | none
  | val (d : D)
  /-- a list of the def's own, that no one else holds -/
  | own (xs : List D)
  /-- an error that an except suite holds: its class, its fields -/
  | exc (c : Nat) (ns : List Str) (xs : List D)
  deriving Inhabited
abbrev Env := List Slot
def vals (ds : List D) : Env := ds.map .val

/-! ### operations on data -/
def line : Nat := 16777216
def b2i (b : Bool) : Int := if b then 1 else 0
def guard (p : Prop) [Decidable p] (d : D) : M D := if p then M.ret d else M.fail
def boolOf : D → M Bool
  | .bl b => M.ret b
  | _ => M.fail
def truth : D → M Bool
  | .non => M.ret false
  | .bl b => M.ret b
  | .int i => M.ret (i != 0)
  | .str x => if x.length ≤ line then M.ret ((x.length : Int) != 0) else M.fail
  | .tup xs => M.ret (!xs.isEmpty)
  | .lst xs => M.ret (!xs.isEmpty)
  | .frz xs => M.ret (!xs.isEmpty)
  | _ => M.fail
def addD : D → D → M D
  | .int i, .int j => M.ret (.int (i + j))
  | .str a, .str b => if a.length + b.length ≤ line then M.ret (.str (a ++ b)) else M.fail
  | .lst a, .lst b => if a.length + b.length ≤ line then M.ret (.lst (a ++ b)) else M.fail
  | .tup a, .tup b => if a ≠ [] ∧ a.length + b.length ≤ line then M.ret (.tup (a ++ b)) else M.fail
  | _, _ => M.fail
def subD : D → D → M D
  | .int i, .int j => M.ret (.int (i - j))
  | _, _ => M.fail
def mulD : D → D → M D
  | .int i, .int j => if i.natAbs.log2 + j.natAbs.log2 < 1000000 then M.ret (.int (i * j)) else M.fail
  | _, _ => M.fail
def fdivD : D → D → M D
  | .int i, .int j => if j ≠ 0 ∧ j.natAbs.log2 < 9000 then M.ret (.int (i.fdiv j)) else M.fail
  | _, _ => M.fail
def modD : D → D → M D
  | .int i, .int j => if j ≠ 0 then M.ret (.int (i.fmod j)) else M.fail
  | _, _ => M.fail
def powD : D → D → M D
  | .int i, .int j => if 0 ≤ j ∧ j ≤ 1000000 ∧ i.natAbs < 2 ^ 64 then M.ret (.int (i ^ j.toNat)) else M.fail
  | _, _ => M.fail
def negD : D → M D
  | .int i => M.ret (.int (-i))
  | _ => M.fail
def ltD : D → D → M D
  | .int i, .int j => M.ret (.bl (decide (i < j)))
  | _, _ => M.fail
def leD : D → D → M D
  | .int i, .int j => M.ret (.bl (decide (i ≤ j)))
  | _, _ => M.fail
def gtD : D → D → M D
  | .int i, .int j => M.ret (.bl (decide (j < i)))
  | _, _ => M.fail
def geD : D → D → M D
  | .int i, .int j => M.ret (.bl (decide (j ≤ i)))
  | _, _ => M.fail

/-! ### == -/
mutual
/-- == of data without objects -/
def D.eqv : D → D → Bool
  | .non, .non => true
  | .bl a, .bl b => a == b
  | .bl a, .int j => (if a then 1 else 0) == j
  | .int i, .bl b => i == (if b then 1 else 0)
  | .int i, .int j => i == j
  | .str x, .str y => x == y
  | .lst xs, .lst ys => D.eqvL xs ys
  | .tup xs, .tup ys => D.eqvL xs ys
  | _, _ => false
def D.eqvL : List D → List D → Bool
  | [], [] => true
  | x :: xs, y :: ys => D.eqv x y && D.eqvL xs ys
  | _, _ => false
end
mutual
/-- data that == is known of: no objects, depth at most n -/
def D.flat : Nat → D → Bool
  | _, .non | _, .bl _ | _, .int _ => true
  | _, .str x => x.cps.all (· < 0x110000)
  | n + 1, .lst xs | n + 1, .tup xs => D.flatL n xs
  | _, _ => false
def D.flatL : Nat → List D → Bool
  | _, [] => true
  | n, x :: xs => D.flat n x && D.flatL n xs
end
def eqD (a b : D) : M D := if D.flat 60 a = true ∧ D.flat 60 b = true then M.ret (.bl (D.eqv a b)) else M.fail
def neD (a b : D) : M D := if D.flat 60 a = true ∧ D.flat 60 b = true then M.ret (.bl (!D.eqv a b)) else M.fail
def D.scal : D → Bool
  | .non | .bl _ | .int _ | .str _ => true
  | _ => false
/-- x in xs, deep -/
def inD (x : D) : D → M D
  | .lst xs => if D.flat 60 x = true ∧ D.flatL 60 xs = true then M.ret (.bl (xs.any fun y => D.eqv y x)) else M.fail
  | .tup xs => if D.scal x = true ∧ xs.all D.scal = true then M.ret (.bl (xs.any fun y => D.eqv y x)) else M.fail
  | _ => M.fail
def notInD (x : D) (xs : D) : M D := M.bind (inD x xs) fun r => match r with
  | .bl b => M.ret (.bl (!b))
  | _ => M.fail
def D.isNon : D → Bool
  | .non => true
  | _ => false
def isNonD (a : D) : D → M D
  | .non => M.ret (.bl a.isNon)
  | _ => M.fail
def notNonD (a : D) : D → M D
  | .non => M.ret (.bl (!a.isNon))
  | _ => M.fail
/-- x is True, x is False -/
def isD : D → D → M D
  | .bl a, .bl b => M.ret (.bl (decide (a = b)))
  | _, _ => M.fail
def isNotD : D → D → M D
  | .bl a, .bl b => M.ret (.bl (!decide (a = b)))
  | _, _ => M.fail

/-! ### sequences -/
def seqOf : D → M (List D)
  | .lst xs | .tup xs | .frz xs => M.ret xs
  | _ => M.fail
def ixP (len : Nat) (k : Int) : Option Nat := if 0 ≤ k ∧ k < len then some k.toNat else if k < 0 ∧ 0 ≤ k + len then some (k + len).toNat else none
def itemAt {α : Type} (xs : List α) (k : Int) : Option α := match ixP xs.length k with
  | some j => xs[j]?
  | none => none
def ixL (xs : List D) : D → M D
  | .int i => match itemAt xs i with
    | some d => M.ret d
    | none => M.fail
  | _ => M.fail
def ixD : D → D → M D
  | .lst xs, i => ixL xs i
  | .frz xs, i => ixL xs i
  | .tup xs, i => ixL xs i
  | .hand, i => fun w => match w with
    | some xs => ixL xs i w
    | none => .bad
  | _, _ => M.fail
def cutAt (len dflt : Nat) : Option Int → Nat
  | none => dflt
  | some k => if 0 ≤ k then min k.toNat len else (k + len).toNat
def cutL {α : Type} (xs : List α) (lo hi : Option Int) : List α :=
  let a := cutAt xs.length 0 lo
  (xs.drop a).take (cutAt xs.length xs.length hi - a)
def sliceD (x : D) (lo hi : Option Int) : M D := match x with
  | .lst xs => M.ret (.lst (cutL xs lo hi))
  | .tup xs => if ¬ (cutAt xs.length 0 lo = 0 ∧ cutAt xs.length xs.length hi = xs.length) then M.ret (.tup (cutL xs lo hi)) else M.fail
  | _ => M.fail
def lenD : D → M D
  | .str x => if x.length ≤ line then M.ret (.int x.length) else M.fail
  | .lst xs | .tup xs | .frz xs => M.ret (.int xs.length)
  | .hand => fun w => match w with
    | some xs => .ok (.int xs.length) w
    | none => .bad
  | _ => M.fail
theorem lenD_str (x : Str) : lenD (.str x) = if x.length ≤ line then M.ret (.int x.length) else M.fail := rfl
@[simp] theorem lenD_lst (xs : List D) : lenD (.lst xs) = M.ret (.int xs.length) := rfl
@[simp] theorem lenD_tup (xs : List D) : lenD (.tup xs) = M.ret (.int xs.length) := rfl
@[simp] theorem lenD_frz (xs : List D) : lenD (.frz xs) = M.ret (.int xs.length) := rfl
def tupD : D → M D
  | .lst xs | .tup xs => M.ret (.tup xs)
  | _ => M.fail
def listD : D → M D
  | .lst xs | .tup xs => M.ret (.lst xs)
  | _ => M.fail
def rangeL (lo hi : Int) : List D := (List.range (hi - lo).toNat).map fun (k : Nat) => D.int (lo + (k : Int))
/-- far within what an index may be (a test that a symbol stops at once) -/
def near (i : Int) : Bool := Nat.ble i.natAbs 2305843009213693952
theorem near_of {i : Int} (h : near i = true) : -(2 ^ 62) ≤ i ∧ i < 2 ^ 62 := by
  have := Nat.le_of_ble_eq_true h
  omega
theorem of_near {i : Int} (h : -(2 ^ 61) ≤ i ∧ i < 2 ^ 61) : near i = true := Nat.ble_eq_true_of_le (by omega)
def rangeM (lo hi : D) : M (List D) := match lo, hi with
  | .int i, .int j => if (near i && near j) = true then M.ret (rangeL i j) else M.fail
  | _, _ => M.fail
def enumL (xs : List D) : List D := (xs.zipIdx).map fun p => D.tup [.int (p.2 : Int), p.1]
def zipL (xs ys : List D) : List D := (xs.zip ys).map fun p => D.tup [p.1, p.2]

/-! ### numbers -/
def intD : D → M D
  | .int i => M.ret (.int i)
  | .bl b => M.ret (.int (if b then 1 else 0))
  | _ => M.fail
def absD : D → M D
  | .int i => M.ret (.int (if i < 0 then -i else i))
  | _ => M.fail
def gcdD : D → D → M D
  | .int a, .int b => M.ret (.int ((Nat.gcd a.natAbs b.natAbs : Nat) : Int))
  | _, _ => M.fail
def strD : D → M D
  | .int i => if i.natAbs.log2 < 1920 then M.ret (.str (Str.ofString (toString i))) else M.fail
  | _ => M.fail

/-! ### isinstance -/
inductive Ty where
  | int | bool | str | tuple | list | dict
  | cls (c : Nat)
  deriving DecidableEq
def isT : Ty → D → Bool
  | .int, .int _ | .int, .bl _ | .bool, .bl _ | .str, .str _ | .tuple, .tup _ | .list, .lst _ | .list, .frz _ | .list, .hand => true
  | .cls c, .ins c' _ _ => c == c'
  | _, _ => false
def isiD (ts : List Ty) (d : D) : M D := M.ret (.bl (ts.any fun t => isT t d))

/-! ### expressions -/
abbrev EF := Env → M D
abbrev TF := Env → M Bool
def eVar (i : Nat) : EF := fun ρ => match ρ[i]? with
  | some (.val d) => M.ret d
  | _ => M.fail
def eC (d : D) : EF := fun _ => M.ret d
def eUn (f : D → M D) (a : EF) : EF := fun ρ => M.bind (a ρ) f
def eBin (f : D → D → M D) (a b : EF) : EF := fun ρ => M.bind (a ρ) fun x => M.bind (b ρ) fun y => f x y
def evs : List EF → Env → M (List D)
  | [], _ => M.ret []
  | e :: es, ρ => M.bind (e ρ) fun x => M.bind (evs es ρ) fun xs => M.ret (x :: xs)
def eTup (es : List EF) : EF := fun ρ => M.bind (evs es ρ) fun xs => M.ret (.tup xs)
def eLst (es : List EF) : EF := fun ρ => M.bind (evs es ρ) fun xs => M.ret (.lst xs)
def eCall (F : List D → M D) (es : List EF) : EF := fun ρ => M.bind (evs es ρ) F
def eIf (t : TF) (a b : EF) : EF := fun ρ => M.bind (t ρ) fun c => if c = true then a ρ else b ρ
def eAnd (a b : EF) : EF := fun ρ => M.bind (a ρ) fun x => M.bind (boolOf x) fun c => if c = true then b ρ else M.ret (.bl false)
def eOr (a b : EF) : EF := fun ρ => M.bind (a ρ) fun x => M.bind (boolOf x) fun c => if c = true then M.ret (.bl true) else b ρ
/-- not x, by truth -/
def eNot (t : TF) : EF := fun ρ => M.bind (t ρ) fun c => M.ret (.bl (!c))
/-- a < b < c -/
def eChain (f g : D → D → M D) (a b c : EF) : EF := fun ρ => M.bind (a ρ) fun x => M.bind (b ρ) fun y => M.bind (f x y) fun r => M.bind (boolOf r) fun k =>
  if k = true then M.bind (c ρ) fun z => g y z else M.ret (.bl false)
def eSlice (a : EF) (lo hi : Option EF) : EF := fun ρ => M.bind (a ρ) fun x =>
  M.bind (match lo with | none => M.ret none | some e => M.bind (e ρ) fun y => match y with | .int i => M.ret (some i) | _ => M.fail) fun l =>
  M.bind (match hi with | none => M.ret none | some e => M.bind (e ρ) fun y => match y with | .int i => M.ret (some i) | _ => M.fail) fun h => sliceD x l h
/-- a new hand: the list of items, that is from now on the world's -/
def eHand (es : List EF) : EF := fun ρ => M.bind (evs es ρ) fun xs => fun w => match w with
  | none => .ok .hand (some xs)
  | some _ => .bad
/-- an object's or an error's field -/
def fldOf (f : Str) : List Str → List D → Option D
  | n :: ns, x :: xs => match fldOf f ns xs with
    | some d => some d
    | none => if n = f then some x else none
  | _, _ => none
def fldD (f : Str) : D → M D
  | .ins _ ns xs => match fldOf f ns xs with
    | some d => M.ret d
    | none => M.fail
  | _ => M.fail
/-- a field of the error that the suite holds in slot i -/
def eXf (i : Nat) (f : Str) : EF := fun ρ => match ρ[i]? with
  | some (.exc _ ns xs) => match fldOf f ns xs with
    | some d => M.ret d
    | none => M.fail
  | _ => M.fail

/-! tests -/
def tVal (e : EF) : TF := fun ρ => M.bind (e ρ) boolOf
def tTru (e : EF) : TF := fun ρ => M.bind (e ρ) truth
def tAnd (a b : TF) : TF := fun ρ => M.bind (a ρ) fun c => if c = true then b ρ else M.ret false
def tOr (a b : TF) : TF := fun ρ => M.bind (a ρ) fun c => if c = true then M.ret true else b ρ
def tNot (a : TF) : TF := fun ρ => M.bind (a ρ) fun c => M.ret (!c)
def tYes : TF := fun _ => M.ret true

/-! what is walked, and where an item goes -/
abbrev IF := Env → M (List D)
def iSeq (e : EF) : IF := fun ρ => M.bind (e ρ) seqOf
def iOwn (i : Nat) : IF := fun ρ => match ρ[i]? with
  | some (.own xs) => M.ret xs
  | _ => M.fail
def iRng (lo hi : EF) : IF := fun ρ => M.bind (lo ρ) fun x => M.bind (hi ρ) fun y => rangeM x y
def iEnum (e : EF) : IF := fun ρ => M.bind (e ρ) fun x => M.bind (seqOf x) fun xs => M.ret (enumL xs)
def iZip (a b : EF) : IF := fun ρ => M.bind (a ρ) fun x => M.bind (b ρ) fun y => M.bind (seqOf x) fun xs => M.bind (seqOf y) fun ys => M.ret (zipL xs ys)
abbrev GF := D → Env → Option Env
def gN (i : Nat) : GF := fun d ρ => some (ρ.set i (.val d))
def gAll : List Nat → List D → Env → Option Env
  | [], [], ρ => some ρ
  | i :: is, d :: ds, ρ => gAll is ds (ρ.set i (.val d))
  | _, _, _ => none
def gT (is : List Nat) : GF := fun d ρ => match d with
  | .tup ds => gAll is ds ρ
  | _ => none

/-- nothing may be raised -/
def noEx {α : Type} (m : M α) : M α := fun w => match m w with
  | .ok a w' => .ok a w'
  | _ => .bad
@[simp] theorem noEx_ret {α : Type} (a : α) : noEx (M.ret a) = M.ret a := rfl
theorem noEx_ap {α : Type} {m : M α} {w w' : Wd} {a : α} (h : m w = .ok a w') : noEx m w = .ok a w' := by unfold noEx; rw [h]
/-- [e for g in xs if t] -/
def lcL (g : GF) (t : TF) (e : EF) (ρ : Env) : List D → M (List D)
  | [] => M.ret []
  | x :: xs => match g x ρ with
    | none => M.fail
    | some ρ1 => M.bind (noEx (t ρ1)) fun c => if c = true then M.bind (noEx (e ρ1)) fun y => M.bind (lcL g t e ρ xs) fun ys => M.ret (y :: ys) else lcL g t e ρ xs
theorem lcL_cons {g : GF} {t : TF} {e : EF} {ρ ρ1 : Env} {x : D} {xs : List D} (eg : g x ρ = some ρ1) : lcL g t e ρ (x :: xs) =
    M.bind (noEx (t ρ1)) fun c => if c = true then M.bind (noEx (e ρ1)) fun y => M.bind (lcL g t e ρ xs) fun ys => M.ret (y :: ys) else lcL g t e ρ xs := by
  conv => lhs; unfold lcL
  rw [eg]
theorem lcL_true {β : Type} {g : GF} {t : TF} {e : EF} {ρ ρ1 : Env} {x d : D} {xs : List D} {w w3 w5 : Wd} {k : List D → M β} (eg : g x ρ = some ρ1) (et : t ρ1 w = .ok true w3) (ee : e ρ1 w3 = .ok d w5) :
    M.bind (lcL g t e ρ (x :: xs)) k w = M.bind (lcL g t e ρ xs) (fun ys => k (d :: ys)) w5 := by
  rw [lcL_cons eg]
  simp only [bind_bind, ret_bind]
  rw [bind_ap, noEx_ap et]
  simp only [if_true, bind_bind, ret_bind]
  rw [bind_ap, noEx_ap ee]
theorem lcL_false {β : Type} {g : GF} {t : TF} {e : EF} {ρ ρ1 : Env} {x : D} {xs : List D} {w w3 : Wd} {k : List D → M β} (eg : g x ρ = some ρ1) (et : t ρ1 w = .ok false w3) :
    M.bind (lcL g t e ρ (x :: xs)) k w = M.bind (lcL g t e ρ xs) k w3 := by
  rw [lcL_cons eg]
  simp only [bind_bind, ret_bind]
  rw [bind_ap, noEx_ap et]
  simp only [Bool.false_eq_true, if_false]
theorem noEx_bad {α : Type} {m : M α} {w : Wd} (h : ∀ a w', m w ≠ .ok a w') : noEx m w = .bad := by
  unfold noEx
  split
  · rename_i a w' e; exact absurd e (h a w')
  · rfl
theorem lcL_badt {β : Type} {g : GF} {t : TF} {e : EF} {ρ ρ1 : Env} {x : D} {xs : List D} {w : Wd} {k : List D → M β} (eg : g x ρ = some ρ1) (et : ∀ a w', t ρ1 w ≠ .ok a w') :
    M.bind (lcL g t e ρ (x :: xs)) k w = .bad := by
  rw [lcL_cons eg]
  simp only [bind_bind]
  rw [bind_ap, noEx_bad et]
theorem lcL_bade {β : Type} {g : GF} {t : TF} {e : EF} {ρ ρ1 : Env} {x : D} {xs : List D} {w w3 : Wd} {k : List D → M β} (eg : g x ρ = some ρ1) (et : t ρ1 w = .ok true w3) (ee : ∀ a w', e ρ1 w3 ≠ .ok a w') :
    M.bind (lcL g t e ρ (x :: xs)) k w = .bad := by
  rw [lcL_cons eg]
  simp only [bind_bind, ret_bind]
  rw [bind_ap, noEx_ap et]
  simp only [if_true, bind_bind, ret_bind]
  rw [bind_ap, noEx_bad ee]
def wipeE (ρ : Env) : List Nat → Env
  | [] => ρ
  | i :: is => (wipeE ρ is).set i .none
def nLc (src : IF) (is : List Nat) (g : GF) (t : TF) (e : EF) : Env → M (List D) := fun ρ => M.bind (src ρ) fun xs => if xs.length ≤ line then lcL g t e (wipeE ρ is) xs else M.fail
def eNew (f : Env → M (List D)) : EF := fun ρ => M.bind (f ρ) fun ys => M.ret (.lst ys)
def eLc (src : IF) (is : List Nat) (g : GF) (t : TF) (e : EF) : EF := eNew (nLc src is g t e)

/-! ### statements -/
inductive SR where
  | nx (ρ : Env) (w : Wd) | rt (d : D) (w : Wd) | bk (ρ : Env) (w : Wd) | ct (ρ : Env) (w : Wd)
  | ex (c : Nat) (ns : List Str) (xs : List D) (ρ : Env) (w : Wd)
  | bad
abbrev SF := Env → Wd → SR
def onE {α : Type} (m : M α) (ρ : Env) (w : Wd) (k : α → Wd → SR) : SR := match m w with
  | .ok a w' => k a w'
  | .ex c ns xs w' => .ex c ns xs ρ w'
  | .bad => .bad
def sNext : SF := fun ρ w => .nx ρ w
def sSeq (s t : SF) : SF := fun ρ w => match s ρ w with
  | .nx ρ' w' => t ρ' w'
  | r => r
def sSet (i : Nat) (e : EF) : SF := fun ρ w => onE (e ρ) ρ w fun d w' => .nx (ρ.set i (.val d)) w'
/-- a new list, the def's own -/
def sOwn (i : Nat) (f : Env → M (List D)) : SF := fun ρ w => onE (f ρ) ρ w fun ds w' => .nx (ρ.set i (.own ds)) w'
/-- from here on the list is not changed any more -/
def sFrz (i : Nat) : SF := fun ρ w => match ρ[i]? with
  | some (.own xs) => .nx (ρ.set i (.val (.lst xs))) w
  | _ => .bad
def sApp (i : Nat) (e : EF) : SF := fun ρ w => match ρ[i]? with
  | some (.own xs) => onE (e ρ) ρ w fun d w' => if xs.length < line then .nx (ρ.set i (.own (xs ++ [d]))) w' else .bad
  | _ => .bad
def sExpr (e : EF) : SF := fun ρ w => onE (e ρ) ρ w fun _ w' => .nx ρ w'
def sRet (e : EF) : SF := fun ρ w => onE (e ρ) ρ w fun d w' => .rt d w'
/-- return of a list of the def's own -/
def sRetOwn (i : Nat) : SF := fun ρ w => match ρ[i]? with
  | some (.own xs) => .rt (.lst xs) w
  | _ => .bad
def sRetN : SF := fun _ w => .rt .non w
def sIf (t : TF) (a b : SF) : SF := fun ρ w => onE (t ρ) ρ w fun c w' => if c = true then a ρ w' else b ρ w'
def sBrk : SF := fun ρ w => .bk ρ w
def sCnt : SF := fun ρ w => .ct ρ w
def sUnp (is : List Nat) (e : EF) : SF := fun ρ w => onE (e ρ) ρ w fun d w' => match gT is d ρ with
  | some ρ' => .nx ρ' w'
  | none => .bad
def sPar (i j : Nat) (a b : EF) : SF := fun ρ w => onE (evs [a, b] ρ) ρ w fun xs w' => match xs with
  | [x, y] => .nx ((ρ.set i (.val x)).set j (.val y)) w'
  | _ => .bad
def hsK (ρ : Env) (xs : List D) (w : Wd) : SR := match xs, w with
  | [d, .hand, .int i], some hs => match ixP hs.length i with
    | some j => .nx ρ (some (hs.set j d))
    | none => .bad
  | _, _ => .bad
theorem hsK_cases (ρ : Env) (xs : List D) (w : Wd) : hsK ρ xs w = .bad ∨ ∃ d i hs, xs = [d, .hand, .int i] ∧ w = some hs := by
  unfold hsK
  split
  · exact .inr ⟨_, _, _, rfl, rfl⟩
  · exact .inl rfl
/-- hand[k] = e -/
def sHSet (h k e : EF) : SF := fun ρ w => onE (M.bind (e ρ) fun d => M.bind (h ρ) fun o => M.bind (k ρ) fun j => M.ret [d, o, j]) ρ w (hsK ρ)
def sRaise (c : Nat) (ns : List Str) (es : List EF) : SF := fun ρ w => onE (evs es ρ) ρ w fun xs w' => .ex c ns xs ρ w'
/-- how a loop goes on behind a turn -/
def loopK (r : SR) (k : Env → Wd → SR) : SR := match r with
  | .nx ρ' w' => k ρ' w'
  | .ct ρ' w' => k ρ' w'
  | .bk ρ' w' => .nx ρ' w'
  | r => r
def forL (g : GF) (b : SF) : List D → Env → Wd → SR
  | [], ρ, w => .nx ρ w
  | x :: xs, ρ, w => match g x ρ with
    | none => .bad
    | some ρ1 => loopK (b ρ1 w) fun ρ' w' => forL g b xs ρ' w'
theorem forL_nil (g : GF) (b : SF) (ρ : Env) (w : Wd) : forL g b [] ρ w = .nx ρ w := rfl
theorem forL_cons {g : GF} {b : SF} {x : D} {xs : List D} {ρ ρ1 : Env} {w : Wd} (h : g x ρ = some ρ1) : forL g b (x :: xs) ρ w = loopK (b ρ1 w) fun ρ' w' => forL g b xs ρ' w' := by
  show (match g x ρ with | none => SR.bad | some ρ1 => loopK (b ρ1 w) fun ρ' w' => forL g b xs ρ' w') = _
  rw [h]
theorem forL_none {g : GF} {b : SF} {x : D} {xs : List D} {ρ : Env} {w : Wd} (h : g x ρ = none) : forL g b (x :: xs) ρ w = .bad := by
  show (match g x ρ with | none => SR.bad | some ρ1 => loopK (b ρ1 w) fun ρ' w' => forL g b xs ρ' w') = _
  rw [h]
def sFor (src : IF) (g : GF) (b : SF) : SF := fun ρ w => onE (src ρ) ρ w fun xs w' => forL g b xs ρ w'
def whileL (t : TF) (b : SF) : Nat → Env → Wd → SR
  | 0, _, _ => .bad
  | n + 1, ρ, w => onE (t ρ) ρ w fun c w' => if c = true then loopK (b ρ w') fun ρ' w2 => whileL t b n ρ' w2 else .nx ρ w'
/-- fuel: as many turns as the second function tells -/
def sWhile (fuel : Env → Wd → Nat) (t : TF) (b : SF) : SF := fun ρ w => whileL t b (fuel ρ w) ρ w
def wipeX (ρ : Env) : Env := ρ.map fun s => match s with
  | .exc _ _ _ => .none
  | s => s
/-- behind an except suite -/
def suiteK (i : Nat) (r : SR) : SR := match r with
  | .nx ρ2 w2 => .nx (wipeX (ρ2.set i .none)) w2
  | .bk ρ2 w2 => .bk (wipeX (ρ2.set i .none)) w2
  | .ct ρ2 w2 => .ct (wipeX (ρ2.set i .none)) w2
  | .rt d w2 => .rt d w2
  | _ => .bad
/-- try: body / except (one of cs) as n (slot i): suite; ks: the errors that pass -/
def sTry (body : SF) (cs ks : List Nat) (i : Nat) (suite : SF) : SF := fun ρ w => match body ρ w with
  | .ex c ns xs ρ' w' => if c ∈ cs then suiteK i (suite (ρ'.set i (.exc c ns xs)) w') else if c ∈ ks then .ex c ns xs ρ' w' else .bad
  | r => r

/-- a def: its slots, its body -/
def callF (n : Nat) (b : SF) (ds : List D) : M D := fun w => match b (vals ds ++ List.replicate (n - ds.length) .none) w with
  | .nx _ w' => .ok .non w'
  | .rt d w' => .ok d w'
  | .ex c ns xs _ w' => .ex c ns xs w'
  | _ => .bad
end FL

/-! F2: pure data against the abstract heap; the judgements. -/
namespace FL
open PySem
open L2 (V Hp HO Cx Inv VK TE TT TA TS TI TG PE PT PA PS PSs PI PG Ends XK WX RelV Vals Rd upd upd_same upd_ne ne_of_none)
abbrev NS := Addr → Prop
abbrev St := L2.St

section rep
variable (K : PySem.W.Frag) (cm : Nat → Addr)
def KL (a : Addr) (xs : List V) : Prop := ∃ (o : Obj) (its : Array Value) (n : Nat), K.lookup a = some o ∧ o.cls = .type "list" ∧ o.dict = none ∧ o.data = .seq its n ∧ its.size ≤ sizeLine ∧ Vals xs its.toList
def KT (a : Addr) (xs : List V) : Prop := ∃ (o : Obj) (its : Array Value) (n : Nat), K.lookup a = some o ∧ o.cls = .type "tuple" ∧ o.data = .seq its n ∧ its.size ≤ sizeLine ∧ Vals xs its.toList
def LN (H : Hp) (N : NS) (a : Addr) (xs : List V) : Prop := (¬ N a ∧ Rd H a (.lst xs)) ∨ KL K a xs
def TN (H : Hp) (N : NS) (a : Addr) (xs : List V) : Prop := (¬ N a ∧ Rd H a (.tup xs)) ∨ KT K a xs
mutual
/-- the value v, in the heap H, is the data d; nothing of it stands where N is. ph: the hand's list -/
def Rep (H : Hp) (N : NS) (ph : Option Addr) : D → V → Prop
  | .non, v => v = .non
  | .bl b, v => v = .bl b
  | .int i, v => v = .int i
  | .str x, v => v = .str x
  | .tup ds, v => ∃ a vs, v = .ref a ∧ TN K H N a vs ∧ RepL H N ph ds vs
  | .lst ds, v => ∃ a vs, v = .ref a ∧ (¬ N a ∧ H a = some (.lst vs)) ∧ RepL H N ph ds vs
  | .frz ds, v => ∃ a vs, v = .ref a ∧ LN K H N a vs ∧ RepL H N ph ds vs
  | .ins c ns ds, v => ∃ a dx vs, v = .ref a ∧ ¬ N a ∧ H a = some (.ins (cm c) dx (ns.zip vs)) ∧ ns.length = vs.length ∧ RepL H N ph ds vs
  | .hand, v => ∃ p, ph = some p ∧ v = .ref p
def RepL (H : Hp) (N : NS) (ph : Option Addr) : List D → List V → Prop
  | [], vs => vs = []
  | d :: ds, vs => ∃ v r, vs = v :: r ∧ Rep H N ph d v ∧ RepL H N ph ds r
end
end rep

section
variable {K : PySem.W.Frag} {cm : Nat → Addr} {H H' H1 H2 : Hp} {N N' N1 N2 : NS} {ph ph' ph1 ph2 : Option Addr} {a p : Addr} {xs : List V}
theorem LN.seq (h : LN K H N a xs) : L2.SqL K H a xs := h.elim (fun h => .inl h.2) .inr
theorem TN.seq (h : TN K H N a xs) : L2.SqT K H a xs := h.elim (fun h => .inl h.2) .inr
/-- what stands behind a step, as far as it is not of N -/
def Keep (H : Hp) (N : NS) (H' : Hp) (N' : NS) : Prop := (∀ b o, ¬ N b → H b = some o → H' b = some o) ∧ (∀ b o, H b = some o → N' b → N b)
theorem Keep.refl : Keep H N H N := ⟨fun _ _ _ h => h, fun _ _ _ h => h⟩
theorem Keep.trans (x : Keep H N H1 N1) (y : Keep H1 N1 H2 N2) : Keep H N H2 N2 := by
  refine ⟨fun b o n h => y.1 b o (fun q => n (x.2 b o h q)) (x.1 b o n h), fun b o h q => ?_⟩
  by_cases n : N b
  · exact n
  · exact x.2 b o h (y.2 b o (x.1 b o n h) q)
theorem Rd.keep {u : HO} (k : Keep H N H' N') (n : ¬ N a) (h : Rd H a u) : ¬ N' a ∧ Rd H' a u := by
  rcases h with h | ⟨o, h⟩
  · exact ⟨fun q => n (k.2 _ _ h q), .inl (k.1 _ _ n h)⟩
  · exact ⟨fun q => n (k.2 _ _ h q), .inr ⟨o, k.1 _ _ n h⟩⟩
theorem LN.keep (k : Keep H N H' N') (h : LN K H N a xs) : LN K H' N' a xs := by
  rcases h with ⟨n, h⟩ | h
  · exact .inl (Rd.keep k n h)
  · exact .inr h
theorem TN.keep (k : Keep H N H' N') (h : TN K H N a xs) : TN K H' N' a xs := by
  rcases h with ⟨n, h⟩ | h
  · exact .inl (Rd.keep k n h)
  · exact .inr h
def PhM (ph ph' : Option Addr) : Prop := ∀ p, ph = some p → ph' = some p
mutual
theorem Rep.keep (k : Keep H N H' N') (hp : PhM ph ph') : ∀ (d : D) (v : V), Rep K cm H N ph d v → Rep K cm H' N' ph' d v
  | .non, _, h => by simpa [Rep] using h
  | .bl _, _, h => by simpa [Rep] using h
  | .int _, _, h => by simpa [Rep] using h
  | .str _, _, h => by simpa [Rep] using h
  | .tup ds, v, h => by
    simp only [Rep] at h ⊢
    obtain ⟨a, vs, e, t, r⟩ := h
    exact ⟨a, vs, e, t.keep k, RepL.keep k hp ds vs r⟩
  | .lst ds, v, h => by
    simp only [Rep] at h ⊢
    obtain ⟨a, vs, e, ⟨n, t⟩, r⟩ := h
    exact ⟨a, vs, e, ⟨fun q => n (k.2 _ _ t q), k.1 _ _ n t⟩, RepL.keep k hp ds vs r⟩
  | .frz ds, v, h => by
    simp only [Rep] at h ⊢
    obtain ⟨a, vs, e, t, r⟩ := h
    exact ⟨a, vs, e, t.keep k, RepL.keep k hp ds vs r⟩
  | .ins c ns ds, v, h => by
    simp only [Rep] at h ⊢
    obtain ⟨a, dx, vs, e, n, t, l, r⟩ := h
    exact ⟨a, dx, vs, e, fun q => n (k.2 _ _ t q), k.1 _ _ n t, l, RepL.keep k hp ds vs r⟩
  | .hand, v, h => by
    simp only [Rep] at h ⊢
    obtain ⟨p, e, q⟩ := h
    exact ⟨p, hp p e, q⟩
theorem RepL.keep (k : Keep H N H' N') (hp : PhM ph ph') : ∀ (ds : List D) (vs : List V), RepL K cm H N ph ds vs → RepL K cm H' N' ph' ds vs
  | [], _, h => by simpa [RepL] using h
  | d :: ds, vs, h => by
    simp only [RepL] at h ⊢
    obtain ⟨v, r, e, h1, h2⟩ := h
    exact ⟨v, r, e, Rep.keep k hp d v h1, RepL.keep k hp ds r h2⟩
end
theorem RepL.length : ∀ {ds : List D} {vs : List V}, RepL K cm H N ph ds vs → ds.length = vs.length
  | [], _, h => by simp only [RepL] at h; subst h; rfl
  | d :: ds, vs, h => by
    simp only [RepL] at h
    obtain ⟨v, r, rfl, _, h2⟩ := h
    simp [RepL.length h2]
theorem RepL.get : ∀ {ds : List D} {vs : List V} {i : Nat} {d : D}, RepL K cm H N ph ds vs → ds[i]? = some d → ∃ v, vs[i]? = some v ∧ Rep K cm H N ph d v
  | [], _, _, _, _, h => by simp at h
  | d :: ds, vs, i, d', h, e => by
    simp only [RepL] at h
    obtain ⟨v, r, rfl, h1, h2⟩ := h
    cases i with
    | zero => simp at e; subst e; exact ⟨v, rfl, h1⟩
    | succ i => exact RepL.get (i := i) h2 (by simpa using e)
theorem RepL.got : ∀ {ds : List D} {vs : List V} {i : Nat} {v : V}, RepL K cm H N ph ds vs → vs[i]? = some v → ∃ d, ds[i]? = some d ∧ Rep K cm H N ph d v
  | [], _, _, _, h, e => by simp only [RepL] at h; subst h; simp at e
  | d :: ds, vs, i, v', h, e => by
    simp only [RepL] at h
    obtain ⟨v, r, rfl, h1, h2⟩ := h
    cases i with
    | zero => simp at e; subst e; exact ⟨d, rfl, h1⟩
    | succ i => exact RepL.got (i := i) h2 (by simpa using e)
theorem RepL.append : ∀ {ds es : List D} {vs ws : List V}, RepL K cm H N ph ds vs → RepL K cm H N ph es ws → RepL K cm H N ph (ds ++ es) (vs ++ ws)
  | [], _, _, _, h, q => by simp only [RepL] at h; subst h; exact q
  | d :: ds, es, vs, ws, h, q => by
    simp only [RepL] at h
    obtain ⟨v, r, rfl, h1, h2⟩ := h
    simp only [List.cons_append, RepL]
    exact ⟨v, r ++ ws, rfl, h1, RepL.append h2 q⟩
theorem RepL.one {d : D} {v : V} (h : Rep K cm H N ph d v) : RepL K cm H N ph [d] [v] := by
  simp only [RepL]; exact ⟨v, [], rfl, h, rfl⟩
theorem RepL.cons {d : D} {v : V} {ds : List D} {vs : List V} (h : Rep K cm H N ph d v) (q : RepL K cm H N ph ds vs) : RepL K cm H N ph (d :: ds) (v :: vs) := by
  simp only [RepL]; exact ⟨v, vs, rfl, h, q⟩
theorem RepL.nil : RepL K cm H N ph [] [] := by simp only [RepL]
theorem RepL.uncons {d : D} {ds : List D} {vs : List V} (h : RepL K cm H N ph (d :: ds) vs) : ∃ v r, vs = v :: r ∧ Rep K cm H N ph d v ∧ RepL K cm H N ph ds r := by
  simpa only [RepL] using h
theorem RepL.unnil {vs : List V} (h : RepL K cm H N ph [] vs) : vs = [] := by simpa only [RepL] using h
theorem RepL.set : ∀ {ds : List D} {vs : List V} {i : Nat} {d : D} {v : V}, RepL K cm H N ph ds vs → Rep K cm H N ph d v → RepL K cm H N ph (ds.set i d) (vs.set i v)
  | [], _, _, _, _, h, _ => by simp only [RepL] at h; subst h; simpa using RepL.nil
  | e :: ds, vs, i, d, v, h, q => by
    obtain ⟨x, r, rfl, h1, h2⟩ := h.uncons
    cases i with
    | zero => exact RepL.cons q h2
    | succ i => exact RepL.cons h1 (RepL.set h2 q)
theorem RepL.drop : ∀ {ds : List D} {vs : List V} (n : Nat), RepL K cm H N ph ds vs → RepL K cm H N ph (ds.drop n) (vs.drop n)
  | ds, vs, 0, h => h
  | [], _, n + 1, h => by cases h.unnil; exact RepL.nil
  | d :: ds, vs, n + 1, h => by
    obtain ⟨x, r, rfl, h1, h2⟩ := h.uncons
    exact RepL.drop n h2
theorem RepL.take : ∀ {ds : List D} {vs : List V} (n : Nat), RepL K cm H N ph ds vs → RepL K cm H N ph (ds.take n) (vs.take n)
  | ds, vs, 0, h => RepL.nil
  | [], _, n + 1, h => by cases h.unnil; exact RepL.nil
  | d :: ds, vs, n + 1, h => by
    obtain ⟨x, r, rfl, h1, h2⟩ := h.uncons
    exact RepL.cons h1 (RepL.take n h2)
theorem RepL.reverse : ∀ {ds : List D} {vs : List V}, RepL K cm H N ph ds vs → RepL K cm H N ph ds.reverse vs.reverse
  | [], _, h => by cases h.unnil; exact RepL.nil
  | d :: ds, vs, h => by
    obtain ⟨x, r, rfl, h1, h2⟩ := h.uncons
    rw [List.reverse_cons, List.reverse_cons]
    exact (RepL.reverse h2).append (RepL.one h1)

/-! ### the hand, the slots -/
def OO (O : NS) (ph : Option Addr) : NS := fun a => O a ∨ ph = some a
def HandOk (K : PySem.W.Frag) (cm : Nat → Addr) (H : Hp) (O : NS) : Option Addr → Wd → Prop
  | none, none => True
  | some p, some hs => ∃ vs, H p = some (.lst vs) ∧ RepL K cm H (OO O (some p)) (some p) hs vs
  | _, _ => False
/-- H' is H and more, but for the hand's list -/
def Ext (ph : Option Addr) (H H' : Hp) : Prop := ∀ b o, ph ≠ some b → H b = some o → H' b = some o
/-- the hand stays, or it is made now -/
def PhS (H : Hp) (ph ph' : Option Addr) : Prop := ph' = ph ∨ (ph = none ∧ ∃ p, ph' = some p ∧ H p = none)
theorem PhS.m (h : PhS H ph ph') : PhM ph ph' := fun p e => by
  rcases h with h | ⟨h, _⟩
  · rw [h]; exact e
  · rw [h] at e; cases e
theorem Ext.refl : Ext ph H H := fun _ _ _ h => h
theorem PhS.refl : PhS H ph ph := .inl rfl
theorem Ext.trans (x : Ext ph H H1) (s : PhS H ph ph1) (y : Ext ph1 H1 H2) : Ext ph H H2 := fun b o n h => by
  refine y b o (fun q => ?_) (x b o n h)
  rcases s with s | ⟨_, p, s, hp⟩
  · exact n (s ▸ q)
  · rw [s] at q; cases q; rw [hp] at h; cases h
theorem PhS.trans (x : Ext ph H H1) (s : PhS H ph ph1) (t : PhS H1 ph1 ph2) : PhS H ph ph2 := by
  rcases s with s | ⟨s0, p, s1, hp⟩
  · subst s
    rcases t with t | ⟨t0, p, t1, hp⟩
    · exact .inl t
    · refine .inr ⟨t0, p, t1, ?_⟩
      cases q : H p with
      | none => rfl
      | some o => rw [x p o (by rw [t0]; exact fun z => nomatch z) q] at hp; cases hp
  · rcases t with t | ⟨t0, _⟩
    · exact .inr ⟨s0, p, t.trans s1, hp⟩
    · rw [s1] at t0; cases t0
/-- what is owned is there, and it is not the hand -/
def OTr (H : Hp) (O : NS) (ph : Option Addr) : Prop := ∀ a, O a → ph ≠ some a ∧ ∃ vs, H a = some (.lst vs)
theorem Ext.keep {O : NS} (x : Ext ph H H') (s : PhS H ph ph') : Keep H (OO O ph) H' (OO O ph') := by
  refine ⟨fun b o n h => x b o (fun q => n (.inr q)) h, fun b o h q => ?_⟩
  rcases q with q | q
  · exact .inl q
  · rcases s with s | ⟨_, p, s, hp⟩
    · exact .inr (s ▸ q)
    · rw [s] at q; cases q; rw [hp] at h; cases h
theorem OTr.ext {O : NS} (x : Ext ph H H') (s : PhS H ph ph') (h : OTr H O ph) : OTr H' O ph' := fun a o => by
  obtain ⟨n, vs, e⟩ := h a o
  refine ⟨fun q => ?_, vs, x a _ n e⟩
  rcases s with s | ⟨_, p, s, hp⟩
  · exact n (s ▸ q)
  · rw [s] at q; cases q; rw [hp] at e; cases e
/-- a new object p -/
theorem ext_new {o : HO} (hp : H p = none) : Ext ph H (upd H p o) := fun b u _ h => by rw [upd_ne (ne_of_none h hp)]; exact h
theorem HandOk.tr {O : NS} {w : Wd} (h : HandOk K cm H O ph w) {a : Addr} (e : ph = some a) : ∃ vs, H a = some (.lst vs) := by
  subst e
  cases w with
  | none => exact h.elim
  | some hs => obtain ⟨vs, h1, _⟩ := h; exact ⟨vs, h1⟩
theorem fresh_oo {O : NS} {w : Wd} (t : OTr H O ph) (h : HandOk K cm H O ph w) (hp : H p = none) : ¬ OO O ph p := fun q => by
  rcases q with q | q
  · obtain ⟨_, vs, e⟩ := t p q; rw [hp] at e; cases e
  · obtain ⟨vs, e⟩ := h.tr q; rw [hp] at e; cases e
/-- the heap grew, the hand as it was -/
theorem HandOk.keep {O O' : NS} {w : Wd} (h : HandOk K cm H O ph w) (k : Keep H (OO O ph) H' (OO O' ph)) (hh : ∀ p, ph = some p → ∀ o, H p = some o → H' p = some o) : HandOk K cm H' O' ph w := by
  cases ph with
  | none => cases w with
    | none => trivial
    | some hs => exact h.elim
  | some p =>
    cases w with
    | none => exact h.elim
    | some hs =>
      obtain ⟨vs, h1, h2⟩ := h
      exact ⟨vs, hh p rfl _ h1, h2.keep k (fun _ e => e) hs vs⟩
theorem HandOk.new {O : NS} {w : Wd} {o : HO} (h : HandOk K cm H O ph w) (hp : H p = none) : HandOk K cm (upd H p o) O ph w :=
  h.keep (Ext.keep (ext_new hp) PhS.refl) fun q _ u e => by rw [upd_ne (ne_of_none e hp)]; exact e
end
end FL

/-! F3: expressions. -/
namespace FL
open PySem
open L2 (V Hp HO Cx Inv VK TE TT TA TS TI TG PE PT PA PS PSs PI PG Ends XK WX RelV Vals Rd upd upd_same upd_ne ne_of_none EP TP AP OpR R2 CallR FnOk Room Binds)

section
variable (K : PySem.W.Frag) (cm : Nat → Addr) (xa : Option (Addr × Nat × Addr)) (O : NS)
/-- what a slot holds. xa: the error that the suite holds: its address, its class's number, its dict -/
def SlotR (H : Hp) (ph : Option Addr) : Slot → Option V → Prop
  | .none, _ => True
  | .val d, x => ∃ v, x = some v ∧ Rep K cm H (OO O ph) ph d v
  | .own ds, x => ∃ p vs, x = some (.ref p) ∧ O p ∧ H p = some (.lst vs) ∧ RepL K cm H (OO O ph) ph ds vs
  | .exc c ns ds, x => ∃ a dd vs, x = some (.ref a) ∧ xa = some (a, c, dd) ∧ ¬ OO O ph dd ∧ H dd = some (.xd (ns.zip vs).reverse) ∧ ns.length = vs.length ∧ RepL K cm H (OO O ph) ph ds vs
structure EnvE (H : Hp) (ph : Option Addr) (ρ : Env) (σ : St) : Prop where
  len : σ.length = ρ.length
  at_ : ∀ (i : Nat) s x, ρ[i]? = some s → σ[i]? = some x → SlotR K cm xa O H ph s x
  tr : OTr H O ph
end
section
variable {K : PySem.W.Frag} {cm : Nat → Addr} {xa : Option (Addr × Nat × Addr)} {O O' : NS} {H H' H1 H2 : Hp} {ph ph' ph1 ph2 : Option Addr} {ρ : Env} {σ : St} {w w' : Wd}
theorem SlotR.keep {s : Slot} {x : Option V} (k : Keep H (OO O ph) H' (OO O' ph')) (m : PhM ph ph') (ho : ∀ ds p, s = .own ds → x = some (.ref p) → O p → O' p ∧ ∀ o, H p = some o → H' p = some o) (h : SlotR K cm xa O H ph s x) : SlotR K cm xa O' H' ph' s x := by
  cases s with
  | none => trivial
  | val d =>
    obtain ⟨v, e, r⟩ := h
    exact ⟨v, e, r.keep k m d v⟩
  | own ds =>
    obtain ⟨p, vs, e, o, hp, r⟩ := h
    obtain ⟨o', hk⟩ := ho ds p rfl e o
    exact ⟨p, vs, e, o', hk _ hp, r.keep k m ds vs⟩
  | exc c ns ds =>
    obtain ⟨a, dd, vs, e, hx, n, hd, l, r⟩ := h
    exact ⟨a, dd, vs, e, hx, fun q => n (k.2 _ _ hd q), k.1 _ _ n hd, l, r.keep k m ds vs⟩
theorem EnvE.ext (x : Ext ph H H') (s : PhS H ph ph') (h : EnvE K cm xa O H ph ρ σ) : EnvE K cm xa O H' ph' ρ σ :=
  ⟨h.len, fun i sl v e1 e2 => (h.at_ i sl v e1 e2).keep (Ext.keep x s) s.m fun ds p _ _ o => ⟨o, fun u q => x p u (h.tr p o).1 q⟩, h.tr.ext x s⟩
theorem EnvE.val {i : Nat} {d : D} (h : EnvE K cm xa O H ph ρ σ) (e : ρ[i]? = some (.val d)) : ∃ v, σ[i]? = some (some v) ∧ Rep K cm H (OO O ph) ph d v := by
  have hi : i < σ.length := by rw [h.len]; exact (List.getElem?_eq_some_iff.mp e).1
  obtain ⟨v, e1, r⟩ := h.at_ i _ σ[i] e (List.getElem?_eq_getElem hi)
  exact ⟨v, by rw [List.getElem?_eq_getElem hi, e1], r⟩
theorem EnvE.ownd {i : Nat} {ds : List D} (h : EnvE K cm xa O H ph ρ σ) (e : ρ[i]? = some (.own ds)) : ∃ p vs, σ[i]? = some (some (.ref p)) ∧ O p ∧ H p = some (.lst vs) ∧ RepL K cm H (OO O ph) ph ds vs := by
  have hi : i < σ.length := by rw [h.len]; exact (List.getElem?_eq_some_iff.mp e).1
  obtain ⟨p, vs, e1, r⟩ := h.at_ i _ σ[i] e (List.getElem?_eq_getElem hi)
  exact ⟨p, vs, by rw [List.getElem?_eq_getElem hi, e1], r⟩
theorem EnvE.excd {i : Nat} {c : Nat} {ns : List Str} {ds : List D} (h : EnvE K cm xa O H ph ρ σ) (e : ρ[i]? = some (.exc c ns ds)) :
    ∃ a dd vs, σ[i]? = some (some (.ref a)) ∧ xa = some (a, c, dd) ∧ H dd = some (.xd (ns.zip vs).reverse) ∧ ns.length = vs.length ∧ RepL K cm H (OO O ph) ph ds vs := by
  have hi : i < σ.length := by rw [h.len]; exact (List.getElem?_eq_some_iff.mp e).1
  obtain ⟨a, dd, vs, e1, r1, _, r⟩ := h.at_ i _ σ[i] e (List.getElem?_eq_getElem hi)
  exact ⟨a, dd, vs, by rw [List.getElem?_eq_getElem hi, e1], r1, r⟩

/-! ### a run -/
variable (K cm xa O) in
def Post1 {α β : Type} (rel : Hp → Option Addr → α → β → Prop) (Wx : WX) (σ : St) (ph : Option Addr) (H : Hp) (Q : β → Hp → Prop) : R α → Prop
  | .ok a w' => ∀ b H' ph', Ext ph H H' → PhS H ph ph' → HandOk K cm H' O ph' w' → rel H' ph' a b → Q b H'
  | .ex c ns xs w' => ∀ dd H' ph' vs, Ext ph H H' → PhS H ph ph' → HandOk K cm H' O ph' w' → H' dd = some (.xd (ns.zip vs).reverse) → ns.length = vs.length → RepL K cm H' (OO O ph') ph' xs vs → Wx (.ref (cm c)) (some dd) σ H'
  | .bad => False
variable (K cm xa O) in
/-- the computation m, begun at (ph, H, w), ends as Q wishes -/
structure Run {α β : Type} (rel : Hp → Option Addr → α → β → Prop) (Wx : WX) (ρ : Env) (σ : St) (ph : Option Addr) (H : Hp) (w : Wd) (m : M α) (Q : β → Hp → Prop) : Prop where
  env : EnvE K cm xa O H ph ρ σ
  hand : HandOk K cm H O ph w
  post : Post1 K cm O rel Wx σ ph H Q (m w)
variable (K cm O) in
abbrev relV : Hp → Option Addr → D → V → Prop := fun H ph d v => Rep K cm H (OO O ph) ph d v
variable (K cm O) in
abbrev relL : Hp → Option Addr → List D → List V → Prop := fun H ph d v => RepL K cm H (OO O ph) ph d v
abbrev relB : Hp → Option Addr → Bool → Bool → Prop := fun _ _ a b => a = b

variable {Wx : WX}
theorem Post1.imp {α β : Type} {rel : Hp → Option Addr → α → β → Prop} {Q Q' : β → Hp → Prop} {r : R α} (hq : ∀ b H1, Q b H1 → Q' b H1) (h : Post1 K cm O rel Wx σ ph H Q r) : Post1 K cm O rel Wx σ ph H Q' r := by
  cases r with
  | ok a w' => exact fun b H' ph' e s k r => hq _ _ (h b H' ph' e s k r)
  | ex c ns xs w' => exact h
  | bad => exact h
theorem Run.imp {α β : Type} {rel : Hp → Option Addr → α → β → Prop} {m : M α} {Q Q' : β → Hp → Prop} (hq : ∀ b H1, Q b H1 → Q' b H1) (h : Run K cm xa O rel Wx ρ σ ph H w m Q) : Run K cm xa O rel Wx ρ σ ph H w m Q' :=
  ⟨h.env, h.hand, h.post.imp hq⟩
theorem Post1.ext {α β : Type} {rel : Hp → Option Addr → α → β → Prop} {Q : β → Hp → Prop} {r : R α} (x : Ext ph H H1) (s : PhS H ph ph1) (h : Post1 K cm O rel Wx σ ph H Q r) : Post1 K cm O rel Wx σ ph1 H1 Q r := by
  cases r with
  | ok a w' => exact fun b H' ph' e t k r => h b H' ph' (x.trans s e) (s.trans x t) k r
  | ex c ns xs w' => exact fun dd H' ph' vs e t => h dd H' ph' vs (x.trans s e) (s.trans x t)
  | bad => exact h
/-- one computation behind another -/
theorem Run.bind {α β γ δ : Type} {rel : Hp → Option Addr → α → β → Prop} {rel2 : Hp → Option Addr → γ → δ → Prop} {m : M α} {k : α → M γ} {Q : δ → Hp → Prop} (h : Run K cm xa O rel2 Wx ρ σ ph H w (M.bind m k) Q) :
    Run K cm xa O rel Wx ρ σ ph H w m (fun b H1 => ∃ a ph1 w1, Ext ph H H1 ∧ PhS H ph ph1 ∧ rel H1 ph1 a b ∧ Run K cm xa O rel2 Wx ρ σ ph1 H1 w1 (k a) Q) := by
  refine ⟨h.env, h.hand, ?_⟩
  have hp := h.post
  unfold M.bind at hp
  cases e : m w with
  | ok a w1 =>
    rw [e] at hp
    exact fun b H1 ph1 x s hk r => ⟨a, ph1, w1, x, s, r, h.env.ext x s, hk, hp.ext x s⟩
  | ex c ns xs w1 => rw [e] at hp; exact hp
  | bad => rw [e] at hp; exact hp
theorem Run.ret {α β : Type} {rel : Hp → Option Addr → α → β → Prop} {a : α} {b : β} {Q : β → Hp → Prop} (h : Run K cm xa O rel Wx ρ σ ph H w (M.ret a) Q) (r : rel H ph a b) : Q b H := h.post b H ph .refl .refl h.hand r
/-- .. behind new objects -/
theorem Run.ret_at {α β : Type} {rel : Hp → Option Addr → α → β → Prop} {a : α} {b : β} {Q : β → Hp → Prop} (h : Run K cm xa O rel Wx ρ σ ph H w (M.ret a) Q) (x : Ext ph H H1) (hk : HandOk K cm H1 O ph w) (r : rel H1 ph a b) : Q b H1 := h.post b H1 ph x .refl hk r
theorem Run.no {α β : Type} {rel : Hp → Option Addr → α → β → Prop} {Q : β → Hp → Prop} {P : Prop} (h : Run K cm xa O rel Wx ρ σ ph H w (M.fail : M α) Q) : P := (show False from h.post).elim
theorem Run.new {p : Addr} (hp : H p = none) {α β : Type} {rel : Hp → Option Addr → α → β → Prop} {m : M α} {Q : β → Hp → Prop} (h : Run K cm xa O rel Wx ρ σ ph H w m Q) : ¬ OO O ph p := fresh_oo h.env.tr h.hand hp
/-- a new tuple, a new list -/
theorem Run.tup {p : Addr} {ds : List D} {vs : List V} {Q : V → Hp → Prop} (h : Run K cm xa O (relV K cm O) Wx ρ σ ph H w (M.ret (.tup ds)) Q) (hp : H p = none) (r : RepL K cm H (OO O ph) ph ds vs) : Q (.ref p) (upd H p (.tup vs)) := by
  refine h.ret_at (ext_new hp) (h.hand.new hp) ?_
  show Rep K cm _ _ _ _ _
  simp only [Rep]
  exact ⟨p, vs, rfl, .inl ⟨h.new hp, .inl upd_same⟩, r.keep (Ext.keep (ext_new hp) .refl) (fun _ e => e) ds vs⟩
theorem Run.lst {p : Addr} {ds : List D} {vs : List V} {Q : V → Hp → Prop} (h : Run K cm xa O (relV K cm O) Wx ρ σ ph H w (M.ret (.lst ds)) Q) (hp : H p = none) (r : RepL K cm H (OO O ph) ph ds vs) : Q (.ref p) (upd H p (.lst vs)) := by
  refine h.ret_at (ext_new hp) (h.hand.new hp) ?_
  show Rep K cm _ _ _ _ _
  simp only [Rep]
  exact ⟨p, vs, rfl, ⟨h.new hp, upd_same⟩, r.keep (Ext.keep (ext_new hp) .refl) (fun _ e => e) ds vs⟩
end

/-! ### the judgements of expressions -/
section
variable (K : PySem.W.Frag) (cm : Nat → Addr) (xa : Option (Addr × Nat × Addr)) (Wx : WX)
def tX (f : EF) : TE := fun σ H Q => ∃ O ρ ph w, Run K cm xa O (relV K cm O) Wx ρ σ ph H w (f ρ) Q
def tTX (f : TF) : TT := fun σ H Q => ∃ O ρ ph w, Run K cm xa O relB Wx ρ σ ph H w (f ρ) Q
def tAX (f : Env → M (List D)) : TA := fun σ H Q => ∃ O ρ ph w, Run K cm xa O (relL K cm O) Wx ρ σ ph H w (f ρ) Q
end
structure Cfg where
  cm : Nat → Addr
  xa : Option (Addr × Nat × Addr)
  Wx : WX
abbrev PX (X : Cx) (c : Cfg) (e : Expr) (f : EF) : Prop := PE X e (tX X.K c.cm c.xa c.Wx f)
abbrev PTX (X : Cx) (c : Cfg) (e : Expr) (f : TF) : Prop := PT X e (tTX X.K c.cm c.xa c.Wx f)
abbrev PAX (X : Cx) (c : Cfg) (es : List Expr) (fs : List EF) : Prop := PA X es (tAX X.K c.cm c.xa c.Wx (evs fs))

theorem PE.to {X : Cx} {e : Expr} {t t' : TE} (h : PE X e t) (m : ∀ σ H Q, t' σ H Q → t σ H Q) : PE X e t' := ⟨fun pins s σ H Q I q => h.run pins s σ H Q I (m σ H Q q)⟩
theorem PT.to {X : Cx} {e : Expr} {t t' : TT} (h : PT X e t) (m : ∀ σ H Q, t' σ H Q → t σ H Q) : PT X e t' := ⟨fun pins s σ H Q I q => h.run pins s σ H Q I (m σ H Q q)⟩
theorem PA.to {X : Cx} {es : List Expr} {t t' : TA} (h : PA X es t) (m : ∀ σ H Q, t' σ H Q → t σ H Q) : PA X es t' := ⟨fun pos pins s σ H Q I q => h.run pos pins s σ H Q I (m σ H Q q)⟩
theorem PS.to {X : Cx} {e : Stmt} {t t' : TS} (h : PS X e t) (m : ∀ D σ H, t' D σ H → t D σ H) : PS X e t' := ⟨fun pins s σ H D I q => h.run pins s σ H D I (m D σ H q)⟩
theorem PSs.to {X : Cx} {e : List Stmt} {t t' : TS} (h : PSs X e t) (m : ∀ D σ H, t' D σ H → t D σ H) : PSs X e t' := ⟨fun pins s σ H D I q => h.run pins s σ H D I (m D σ H q)⟩

section
variable {X : Cx} {c : Cfg} {pos : Pos} {a b e : Expr} {fa fb fe : EF} {es : List Expr} {fs : List EF}
theorem tX.go {f : EF} {σ : St} {H : Hp} {Q : VK} {O : NS} {ρ : Env} {ph : Option Addr} {w : Wd} {Q' : VK} (h : Run X.K c.cm c.xa O (relV X.K c.cm O) c.Wx ρ σ ph H w (f ρ) Q') (m : ∀ v H', Q' v H' → Q v H') : tX X.K c.cm c.xa c.Wx f σ H Q := ⟨O, ρ, ph, w, h.imp m⟩

theorem px_var (i : Nat) {x : Str} (hN : X.N[i]? = some x := by rfl) (hv : L2.Vis X.env.scope x := by first | exact Or.inl rfl | exact Or.inr (Or.inl rfl) | exact Or.inr (Or.inr rfl)) (hd : (x == ("__debug__" : Str)) = false := by decide)
    (hcd : (x == ("__classdict__" : Str)) = false := by decide) : PX X c (.Name x pos) (eVar i) := by
  refine PE.to (L2.pe_var hN hv hd hcd) fun σ H Q ⟨O, ρ, ph, w, h⟩ => ?_
  have hp := h.post
  have he := h.env
  unfold eVar at h
  cases e : ρ[i]? with
  | none => rw [e] at h; exact h.no
  | some s =>
    rw [e] at h
    cases s with
    | val d =>
      obtain ⟨v, e1, r⟩ := he.val e
      exact ⟨v, e1, h.ret r⟩
    | _ => exact h.no
theorem px_int {i : Int} {j : Nat} : PX X c (.Constant (.int i) j pos) (eC (.int i)) := PE.to L2.pe_int fun σ H Q ⟨O, ρ, ph, w, h⟩ => show Q (.int i) H from h.ret (b := V.int i) (by simp [Rep])
theorem px_bl {i : Bool} {j : Nat} : PX X c (.Constant (.bool i) j pos) (eC (.bl i)) := PE.to L2.pe_bl fun σ H Q ⟨O, ρ, ph, w, h⟩ => show Q (.bl i) H from h.ret (b := V.bl i) (by simp [Rep])
theorem px_non {j : Nat} : PX X c (.Constant .none j pos) (eC .non) := PE.to L2.pe_non fun σ H Q ⟨O, ρ, ph, w, h⟩ => show Q (.non) H from h.ret (b := V.non) (by simp [Rep])
theorem px_str {i : Str} {j : Nat} : PX X c (.Constant (.str i) j pos) (eC (.str i)) := PE.to L2.pe_str fun σ H Q ⟨O, ρ, ph, w, h⟩ => show Q (.str i) H from h.ret (b := V.str i) (by simp [Rep])

/-! two-place operations -/
def Op2 (K : PySem.W.Frag) (cm : Nat → Addr) (f : D → D → M D) (r : R2) : Prop := ∀ {xa O Wx ρ σ ph H w} {Q : VK} (d1 d2 v1 v2), Rep K cm H (OO O ph) ph d1 v1 → Rep K cm H (OO O ph) ph d2 v2 →
  Run K cm xa O (relV K cm O) Wx ρ σ ph H w (f d1 d2) Q → r v1 v2 H Q
def Op1 (K : PySem.W.Frag) (cm : Nat → Addr) (f : D → M D) (r : V → Hp → VK → Prop) : Prop := ∀ {xa O Wx ρ σ ph H w} {Q : VK} (d1 v1), Rep K cm H (OO O ph) ph d1 v1 → Run K cm xa O (relV K cm O) Wx ρ σ ph H w (f d1) Q → r v1 H Q
def OpL (K : PySem.W.Frag) (cm : Nat → Addr) (f : List D → M D) (r : List V → Hp → VK → Prop) : Prop := ∀ {xa O Wx ρ σ ph H w} {Q : VK} (d1 v1), RepL K cm H (OO O ph) ph d1 v1 → Run K cm xa O (relV K cm O) Wx ρ σ ph H w (f d1) Q → r v1 H Q
theorem bin_to {f : D → D → M D} {r : R2} (hr : Op2 X.K c.cm f r) : ∀ σ H Q, tX X.K c.cm c.xa c.Wx (eBin f fa fb) σ H Q → L2.tOp r (tX X.K c.cm c.xa c.Wx fa) (tX X.K c.cm c.xa c.Wx fb) σ H Q := fun σ H Q ⟨O, ρ, ph, w, h⟩ =>
  ⟨O, ρ, ph, w, h.bind.imp fun x H1 ⟨d, ph1, w1, e1, s1, r1, h1⟩ => ⟨O, ρ, ph1, w1, h1.bind.imp fun y H2 ⟨d2, ph2, w2, e2, s2, r2, h2⟩ => hr d d2 x y (Rep.keep (Ext.keep e2 s2) s2.m d x r1) r2 h2⟩⟩
theorem px_bin {op : Operator} {f : D → D → M D} {r : R2} (ho : OpR X (binaryOp op) r) (hr : Op2 X.K c.cm f r) (ha : PX X c a fa) (hb : PX X c b fb) : PX X c (.BinOp a op b pos) (eBin f fa fb) :=
  PE.to (L2.pe_op ho ha hb) (bin_to hr)
theorem px_cmp {op : CmpOp} {f : D → D → M D} {r : R2} (ho : OpR X (compareOp op) r) (hr : Op2 X.K c.cm f r) (ha : PX X c a fa) (hb : PX X c b fb) (hm : behindInMarks op b = false) : PX X c (.Compare a [op] [b] pos) (eBin f fa fb) :=
  PE.to (L2.pe_cmpR ho ha hb hm) (bin_to hr)
theorem boolOf_rep {K : PySem.W.Frag} {cm : Nat → Addr} {xa O Wx ρ σ ph H w} {Q : Bool → Hp → Prop} {d : D} {v : V} (r : Rep K cm H (OO O ph) ph d v) (h : Run K cm xa O relB Wx ρ σ ph H w (boolOf d) Q) : ∃ k, v = .bl k ∧ Q k H := by
  cases d with
  | bl k => exact ⟨k, by simpa [Rep] using r, h.ret rfl⟩
  | _ => exact h.no
theorem val_to {f : EF} : ∀ σ H Q, tTX X.K c.cm c.xa c.Wx (tVal f) σ H Q → L2.tTest (tX X.K c.cm c.xa c.Wx f) σ H Q := fun σ H Q ⟨O, ρ, ph, w, h⟩ =>
  ⟨O, ρ, ph, w, h.bind.imp fun x H1 ⟨d, ph1, w1, e1, s1, r1, h1⟩ => boolOf_rep r1 h1⟩
theorem ptx_cmp {op : CmpOp} {f : D → D → M D} {r : R2} (ho : OpR X (compareOp op) r) (hr : Op2 X.K c.cm f r) (ha : PX X c a fa) (hb : PX X c b fb) (hm : behindInMarks op b = false) : PTX X c (.Compare a [op] [b] pos) (tVal (eBin f fa fb)) :=
  PT.to (L2.pt_cmpR ho ha hb hm) fun σ H Q q => by
    obtain ⟨O, ρ, ph, w, h⟩ := val_to (f := eBin f fa fb) σ H Q q
    exact bin_to hr σ H _ ⟨O, ρ, ph, w, h⟩
theorem px_un {op : UnaryOp} {f : D → M D} {r : V → Hp → VK → Prop} (ho : L2.UnR X (unaryOp op) r) (hr : Op1 X.K c.cm f r) (ha : PX X c a fa) : PX X c (.UnaryOp op a pos) (eUn f fa) :=
  PE.to (L2.pe_un ho ha) fun σ H Q ⟨O, ρ, ph, w, h⟩ => ⟨O, ρ, ph, w, h.bind.imp fun x H1 ⟨d, ph1, w1, e1, s1, r1, h1⟩ => hr d x r1 h1⟩

/-! argument lists, displays, calls of built-ins -/
theorem pax_nil : PAX X c [] [] := PA.to L2.pa_nil fun σ H Q ⟨O, ρ, ph, w, h⟩ => h.ret (b := []) RepL.nil
theorem pax_cons (ha : PX X c e fe) (hr : PAX X c es fs) (hs : starEach (e :: es) X.env = (false, eval e X.env) :: starEach es X.env := by rfl) : PAX X c (e :: es) (fe :: fs) :=
  PA.to (L2.pa_cons ha hr hs) fun σ H Q ⟨O, ρ, ph, w, h⟩ => ⟨O, ρ, ph, w, h.bind.imp fun x H1 ⟨d, ph1, w1, e1, s1, r1, h1⟩ =>
    ⟨O, ρ, ph1, w1, h1.bind.imp fun xs H2 ⟨ds, ph2, w2, e2, s2, r2, h2⟩ => h2.ret (RepL.cons (Rep.keep (Ext.keep e2 s2) s2.m d x r1) r2)⟩⟩
theorem evs_len {ρ : Env} : ∀ (fs : List EF) (w : Wd) (ds : List D) (w' : Wd), evs fs ρ w = .ok ds w' → ds.length = fs.length := by
  intro fs
  induction fs with
  | nil => intro w ds w' e; injection e with e _; rw [← e]; rfl
  | cons f fs ih =>
    intro w ds w' e
    unfold evs M.bind at e
    cases e1 : f ρ w with
    | ok d w1 =>
      rw [e1] at e
      simp only [M.bind] at e
      cases e2 : evs fs ρ w1 with
      | ok ds2 w2 =>
        rw [e2] at e
        injection e with e _
        rw [← e, List.length_cons, ih _ _ _ e2]; rfl
      | ex => rw [e2] at e; cases e
      | bad => rw [e2] at e; cases e
    | ex => rw [e1] at e; cases e
    | bad => rw [e1] at e; cases e
/-- the run of an argument list, its length known -/
theorem evs_run {K : PySem.W.Frag} {cm : Nat → Addr} {xa O Wx ρ σ ph H w} {k : List D → M D} {Q : VK} (h : Run K cm xa O (relV K cm O) Wx ρ σ ph H w (M.bind (evs fs ρ) k) Q) :
    Run K cm xa O (relL K cm O) Wx ρ σ ph H w (evs fs ρ) (fun vs H1 => ∃ ds ph1 w1, vs.length = fs.length ∧ RepL K cm H1 (OO O ph1) ph1 ds vs ∧ Run K cm xa O (relV K cm O) Wx ρ σ ph1 H1 w1 (k ds) Q) := by
  have hb := h.bind (rel := relL K cm O)
  refine ⟨hb.env, hb.hand, ?_⟩
  have hp := hb.post
  cases e : evs fs ρ w with
  | ok ds w1 =>
    rw [e] at hp
    intro xs H1 ph1 x1 s1 k1 r1
    have hp2 := h.post
    unfold M.bind at hp2
    rw [e] at hp2
    exact ⟨ds, ph1, w1, r1.length.symm.trans (evs_len _ _ _ _ e), r1, h.env.ext x1 s1, k1, hp2.ext x1 s1⟩
  | ex => rw [e] at hp; exact hp
  | bad => rw [e] at hp; exact hp
theorem px_tup {k : Nat} (h : PAX X c es fs) (hl : fs.length ≤ 1000 := by decide) : PX X c (.Tuple es k pos) (eTup fs) :=
  PE.to (L2.pe_tup h) fun σ H Q ⟨O, ρ, ph, w, h⟩ => ⟨O, ρ, ph, w, (evs_run h).imp fun vs H1 ⟨ds, ph1, w1, l, r, h1⟩ => ⟨by rw [sizeLine_eq]; omega, fun p hp => h1.tup hp r⟩⟩
theorem px_lst (h : PAX X c es fs) (hl : fs.length ≤ 1000 := by decide) : PX X c (.List es pos) (eLst fs) :=
  PE.to (L2.pe_lst h) fun σ H Q ⟨O, ρ, ph, w, h⟩ => ⟨O, ρ, ph, w, (evs_run h).imp fun vs H1 ⟨ds, ph1, w1, l, r, h1⟩ => ⟨by rw [sizeLine_eq]; omega, fun p hp => h1.lst hp r⟩⟩
/-- a new hand -/
theorem px_hand (h : PAX X c es fs) (hl : fs.length ≤ 1000 := by decide) : PX X c (.List es pos) (eHand fs) :=
  PE.to (L2.pe_lst h) fun σ H Q ⟨O, ρ, ph, w, h⟩ => ⟨O, ρ, ph, w, (evs_run h).imp fun vs H1 ⟨ds, ph1, w1, l, r, h1⟩ => ⟨by rw [sizeLine_eq]; omega, fun p hp => by
    have ha := h1.hand
    have pp := h1.post
    cases w1 with
    | some hs => exact (show False from pp).elim
    | none =>
      cases ph1 with
      | some q => exact ha.elim
      | none =>
        have s : PhS H1 none (some p) := .inr ⟨rfl, p, rfl, hp⟩
        refine pp (.ref p) (upd H1 p (.lst vs)) (some p) (ext_new hp) s ?_ ?_
        · exact ⟨vs, upd_same, r.keep (Ext.keep (ext_new hp) s) s.m ds vs⟩
        · show Rep X.K c.cm _ _ _ _ _
          simp only [Rep]
          exact ⟨p, rfl, rfl⟩⟩⟩
theorem px_callB {x : Str} {p : Pos} {id : String} {r : List V → Hp → VK → Prop} {f : List D → M D} (hc : CallR X (.builtin id) r) (hr : OpL X.K c.cm f r) (hg : L2.Gl X x) (hm : X.mg x = none) (hv : bootBuiltins x = some (.builtin id)) (ha : PAX X c (e :: es) fs)
    (hn : x ≠ "__name__" := by decide) (hdb : (x == ("__debug__" : Str)) = false := by decide) (he : starEach (e :: es) X.env = (false, eval e X.env) :: starEach es X.env := by rfl) (hpl : (backTo pos (starEach es X.env)).any (·.1) = false := by rfl) :
    PX X c (.Call (.Name x p) (e :: es) [] pos) (eCall f fs) :=
  PE.to (L2.pe_callB hc hg hm hv ha hn hdb he hpl) fun σ H Q ⟨O, ρ, ph, w, h⟩ => ⟨O, ρ, ph, w, (evs_run h).imp fun vs H1 ⟨ds, ph1, w1, l, r, h1⟩ => hr ds vs r h1⟩
theorem px_callTy {x : Str} {p : Pos} {T : String} {r : List V → Hp → VK → Prop} {f : List D → M D} (hc : CallR X (.type T) r) (hr : OpL X.K c.cm f r) (hg : L2.Gl X x) (hm : X.mg x = none) (hv : bootBuiltins x = some (.type T)) (ha : PAX X c (e :: es) fs)
    (hn : x ≠ "__name__" := by decide) (hdb : (x == ("__debug__" : Str)) = false := by decide) (he : starEach (e :: es) X.env = (false, eval e X.env) :: starEach es X.env := by rfl) (hpl : (backTo pos (starEach es X.env)).any (·.1) = false := by rfl) :
    PX X c (.Call (.Name x p) (e :: es) [] pos) (eCall f fs) :=
  PE.to (L2.pe_callTy hc hg hm hv ha hn hdb he hpl) fun σ H Q ⟨O, ρ, ph, w, h⟩ => ⟨O, ρ, ph, w, (evs_run h).imp fun vs H1 ⟨ds, ph1, w1, l, r, h1⟩ => hr ds vs r h1⟩
theorem px_callF {x : Str} {p : Pos} {id : String} {r : List V → Hp → VK → Prop} {f : List D → M D} (hc : CallR X (.builtin id) r) (hr : OpL X.K c.cm f r) (hg : L2.Gl X x) (hm : X.mg x = some (.builtin id)) (ha : PAX X c (e :: es) fs)
    (hdb : (x == ("__debug__" : Str)) = false := by decide) (he : starEach (e :: es) X.env = (false, eval e X.env) :: starEach es X.env := by rfl) (hpl : (backTo pos (starEach es X.env)).any (·.1) = false := by rfl) :
    PX X c (.Call (.Name x p) (e :: es) [] pos) (eCall f fs) :=
  PE.to (L2.pe_callBfun hc hg hm ha hdb he hpl) fun σ H Q ⟨O, ρ, ph, w, h⟩ => ⟨O, ρ, ph, w, (evs_run h).imp fun vs H1 ⟨ds, ph1, w1, l, r, h1⟩ => hr ds vs r h1⟩

/-! tests, and, or, not, if, chains -/
variable {ta tb : TF}
theorem cond_run {K : PySem.W.Frag} {cm : Nat → Addr} {xa O Wx ρ σ ph H w} {α β : Type} {rel : Hp → Option Addr → α → β → Prop} {k : Bool → M α} {Q : β → Hp → Prop} (h : Run K cm xa O rel Wx ρ σ ph H w (M.bind (ta ρ) k) Q) :
    Run K cm xa O relB Wx ρ σ ph H w (ta ρ) (fun b H1 => ∃ ph1 w1, Run K cm xa O rel Wx ρ σ ph1 H1 w1 (k b) Q) :=
  (h.bind (rel := relB)).imp fun b H1 ⟨d, ph1, w1, _, _, r1, h1⟩ => ⟨ph1, w1, by cases r1; exact h1⟩
theorem ptx_val (h : PX X c e fe) (he : ∀ whole, isTrue e X.env whole = (do let v ← whole; standAt e.pos; holding [v] (truthy v)) := by intro _; rfl) : PTX X c e (tVal fe) :=
  PT.to (L2.pt_val h he) val_to
theorem truth_rep {K : PySem.W.Frag} {cm : Nat → Addr} {xa O Wx ρ σ ph H w} {Q : Bool → Hp → Prop} {d : D} {v : V} (r : Rep K cm H (OO O ph) ph d v) (h : Run K cm xa O relB Wx ρ σ ph H w (truth d) Q) : ∃ k, L2.TruV K v H k ∧ Q k H := by
  cases d with
  | non => simp only [Rep] at r; subst r; exact ⟨false, rfl, h.ret rfl⟩
  | bl k => simp only [Rep] at r; subst r; exact ⟨k, rfl, h.ret rfl⟩
  | int i => simp only [Rep] at r; subst r; exact ⟨_, rfl, h.ret rfl⟩
  | str x =>
    simp only [Rep] at r; subst r
    by_cases hl : x.length ≤ line
    · simp only [truth, if_pos hl] at h
      exact ⟨_, ⟨by rw [sizeLine_eq]; exact hl, rfl⟩, h.ret rfl⟩
    · simp only [truth, if_neg hl] at h; exact h.no
  | tup ds =>
    simp only [Rep] at r
    obtain ⟨a, vs, rfl, t, rl⟩ := r
    refine ⟨!vs.isEmpty, .inr (.inl ⟨vs, t.seq, rfl⟩), h.ret ?_⟩
    have := rl.length
    cases ds <;> cases vs <;> simp_all
  | lst ds =>
    simp only [Rep] at r
    obtain ⟨a, vs, rfl, t, rl⟩ := r
    refine ⟨!vs.isEmpty, .inl ⟨vs, .inl (.inl t.2), rfl⟩, h.ret ?_⟩
    have := rl.length
    cases ds <;> cases vs <;> simp_all
  | frz ds =>
    simp only [Rep] at r
    obtain ⟨a, vs, rfl, t, rl⟩ := r
    refine ⟨!vs.isEmpty, .inl ⟨vs, t.seq, rfl⟩, h.ret ?_⟩
    have := rl.length
    cases ds <;> cases vs <;> simp_all
  | _ => exact h.no
theorem ptx_tru (h : PX X c e fe) (he : ∀ whole, isTrue e X.env whole = (do let v ← whole; standAt e.pos; holding [v] (truthy v)) := by intro _; rfl) : PTX X c e (tTru fe) :=
  PT.to (L2.pt_truth h he) fun σ H Q ⟨O, ρ, ph, w, h⟩ => ⟨O, ρ, ph, w, h.bind.imp fun x H1 ⟨d, ph1, w1, e1, s1, r1, h1⟩ => truth_rep r1 h1⟩
/-- a test whatever its whole is -/
abbrev PWX (X : Cx) (c : Cfg) (e : Expr) (f : TF) : Prop := L2.PW X e (tTX X.K c.cm c.xa c.Wx f)
theorem PW.to {e : Expr} {t t' : TT} (h : L2.PW X e t) (m : ∀ σ H Q, t' σ H Q → t σ H Q) : L2.PW X e t' := ⟨fun wh pins s σ H Q I q => h.run wh pins s σ H Q I (m σ H Q q)⟩
theorem pwx_and1 (ha : PTX X c a ta) : PWX X c (.BoolOp .And [a] pos) ta := L2.pw_and1 ha
theorem pwx_or1 (ha : PTX X c a ta) : PWX X c (.BoolOp .Or [a] pos) ta := L2.pw_or1 ha
theorem pwx_and {rest : List Expr} (ha : PTX X c a ta) (hb : PWX X c (.BoolOp .And (b :: rest) pos) tb) : PWX X c (.BoolOp .And (a :: b :: rest) pos) (tAnd ta tb) :=
  PW.to (L2.pw_and ha hb) fun σ H Q ⟨O, ρ, ph, w, h⟩ => ⟨O, ρ, ph, w, (cond_run h).imp fun k H1 ⟨ph1, w1, h1⟩ => by
    cases k with
    | true => exact ⟨O, ρ, ph1, w1, h1⟩
    | false => exact h1.ret rfl⟩
theorem pwx_or {rest : List Expr} (ha : PTX X c a ta) (hb : PWX X c (.BoolOp .Or (b :: rest) pos) tb) : PWX X c (.BoolOp .Or (a :: b :: rest) pos) (tOr ta tb) :=
  PW.to (L2.pw_or ha hb) fun σ H Q ⟨O, ρ, ph, w, h⟩ => ⟨O, ρ, ph, w, (cond_run h).imp fun k H1 ⟨ph1, w1, h1⟩ => by
    cases k with
    | false => exact ⟨O, ρ, ph1, w1, h1⟩
    | true => exact h1.ret rfl⟩
theorem PWX.pt (h : PWX X c e ta) : PTX X c e ta := L2.PW.pt h
theorem ptx_not (ha : PTX X c a ta) : PTX X c (.UnaryOp .Not a pos) (tNot ta) :=
  PT.to (L2.pt_not ha) fun σ H Q ⟨O, ρ, ph, w, h⟩ => ⟨O, ρ, ph, w, (cond_run h).imp fun k H1 ⟨ph1, w1, h1⟩ => h1.ret rfl⟩
theorem px_one {op : BoolOp} (h : PX X c a fa) : PX X c (.BoolOp op [a] pos) fa := L2.pe_one h
theorem bool_run {K : PySem.W.Frag} {cm : Nat → Addr} {xa O Wx ρ σ ph H w} {α β : Type} {rel : Hp → Option Addr → α → β → Prop} {d : D} {v : V} {k : Bool → M α} {Q : β → Hp → Prop} (r : Rep K cm H (OO O ph) ph d v)
    (h : Run K cm xa O rel Wx ρ σ ph H w (M.bind (boolOf d) k) Q) : ∃ b, v = .bl b ∧ Run K cm xa O rel Wx ρ σ ph H w (k b) Q := by
  cases d with
  | bl b => exact ⟨b, by simpa [Rep] using r, h⟩
  | _ => exact h.no
theorem px_and {rest : List Expr} (ha : PX X c a fa) (hb : PX X c (.BoolOp .And (b :: rest) pos) fb) : PX X c (.BoolOp .And (a :: b :: rest) pos) (eAnd fa fb) :=
  PE.to (L2.pe_and ha hb) fun σ H Q ⟨O, ρ, ph, w, h⟩ => ⟨O, ρ, ph, w, h.bind.imp fun x H1 ⟨d, ph1, w1, e1, s1, r1, h1⟩ => by
    obtain ⟨k, rfl, h2⟩ := bool_run r1 h1
    refine ⟨k, rfl, ?_⟩
    cases k with
    | true => exact ⟨O, ρ, ph1, w1, h2⟩
    | false => exact h2.ret (b := .bl false) (by simp [Rep])⟩
theorem px_or {rest : List Expr} (ha : PX X c a fa) (hb : PX X c (.BoolOp .Or (b :: rest) pos) fb) : PX X c (.BoolOp .Or (a :: b :: rest) pos) (eOr fa fb) :=
  PE.to (L2.pe_or ha hb) fun σ H Q ⟨O, ρ, ph, w, h⟩ => ⟨O, ρ, ph, w, h.bind.imp fun x H1 ⟨d, ph1, w1, e1, s1, r1, h1⟩ => by
    obtain ⟨k, rfl, h2⟩ := bool_run r1 h1
    refine ⟨k, rfl, ?_⟩
    cases k with
    | false => exact ⟨O, ρ, ph1, w1, h2⟩
    | true => exact h2.ret (b := .bl true) (by simp [Rep])⟩
theorem px_if {t : Expr} (ht : PTX X c t ta) (ha : PX X c a fa) (hb : PX X c b fb) : PX X c (.IfExp t a b pos) (eIf ta fa fb) :=
  PE.to (L2.pe_ifExp ht ha hb) fun σ H Q ⟨O, ρ, ph, w, h⟩ => ⟨O, ρ, ph, w, (cond_run h).imp fun k H1 ⟨ph1, w1, h1⟩ => by
    cases k with
    | true => exact ⟨O, ρ, ph1, w1, h1⟩
    | false => exact ⟨O, ρ, ph1, w1, h1⟩⟩
/-- not x as a value, by truth -/
theorem px_not (ha : PX X c a fa) : PX X c (.UnaryOp .Not a pos) (eNot (tTru fa)) :=
  PE.to (L2.pe_notT ha) fun σ H Q ⟨O, ρ, ph, w, h⟩ => by
    have h' : Run X.K c.cm c.xa O (relV X.K c.cm O) c.Wx ρ σ ph H w (M.bind (fa ρ) fun d => M.bind (truth d) fun k => M.ret (.bl (!k))) Q := by
      have e : eNot (tTru fa) ρ = M.bind (fa ρ) fun d => M.bind (truth d) fun k => M.ret (.bl (!k)) := by unfold eNot tTru; rw [bind_bind]
      rw [← e]; exact h
    refine ⟨O, ρ, ph, w, h'.bind.imp fun x H1 ⟨d, ph1, w1, e1, s1, r1, h1⟩ => ?_⟩
    obtain ⟨k, ht, ph2, w2, h2⟩ := truth_rep r1 (cond_run (ta := fun _ => truth d) h1)
    exact ⟨k, ht, h2.ret (b := .bl (!k)) (by simp [Rep])⟩
theorem px_chain {op op' : CmpOp} {f g : D → D → M D} {r r' : R2} {e3 : Expr} {f3 : EF} (ho : OpR X (compareOp op) r) (hr : Op2 X.K c.cm f r) (ho' : OpR X (compareOp op') r') (hr' : Op2 X.K c.cm g r') (ha : PX X c a fa) (hb : PX X c b fb) (hc : PX X c e3 f3)
    (hm : lastMarks [op, op'] [b, e3] = false := by with_unfolding_all rfl) : PX X c (.Compare a [op, op'] [b, e3] pos) (eChain f g fa fb f3) :=
  PE.to (L2.pe_chain ho ho' ha hb hc hm) fun σ H Q ⟨O, ρ, ph, w, h⟩ => ⟨O, ρ, ph, w, h.bind.imp fun x H1 ⟨d, ph1, w1, e1, s1, r1, h1⟩ => ⟨O, ρ, ph1, w1, h1.bind.imp fun y H2 ⟨d2, ph2, w2, e2, s2, r2, h2⟩ => by
    refine hr d d2 x y (Rep.keep (Ext.keep e2 s2) s2.m d x r1) r2 (h2.bind.imp fun z H3 ⟨dz, ph3, w3, e3, s3, r3, h3⟩ => ?_)
    obtain ⟨k, rfl, h4⟩ := bool_run r3 h3
    refine ⟨k, rfl, ?_⟩
    cases k with
    | false => exact h4.ret (b := .bl false) (by simp [Rep])
    | true => exact ⟨O, ρ, ph3, w3, (Run.bind h4).imp fun z' H4 ⟨d4, ph4, w4, e4, s4, r4, h5⟩ => hr' d2 d4 y z' (Rep.keep (Ext.keep e4 s4) s4.m d2 y (Rep.keep (Ext.keep e3 s3) s3.m d2 y r2)) r4 h5⟩⟩⟩
theorem ptx_chain {op op' : CmpOp} {f g : D → D → M D} {r r' : R2} {e3 : Expr} {f3 : EF} (ho : OpR X (compareOp op) r) (hr : Op2 X.K c.cm f r) (ho' : OpR X (compareOp op') r') (hr' : Op2 X.K c.cm g r') (ha : PX X c a fa) (hb : PX X c b fb) (hc : PX X c e3 f3)
    (hm : lastMarks [op, op'] [b, e3] = false := by with_unfolding_all rfl) : PTX X c (.Compare a [op, op'] [b, e3] pos) (tVal (eChain f g fa fb f3)) :=
  PT.to (L2.pt_chain ho ho' ha hb hc hm) fun σ H Q q => by
    obtain ⟨O, ρ, ph, w, h⟩ := val_to (f := eChain f g fa fb f3) σ H Q q
    exact ⟨O, ρ, ph, w, h.bind.imp fun x H1 ⟨d, ph1, w1, e1, s1, r1, h1⟩ => ⟨O, ρ, ph1, w1, h1.bind.imp fun y H2 ⟨d2, ph2, w2, e2, s2, r2, h2⟩ => by
      refine hr d d2 x y (Rep.keep (Ext.keep e2 s2) s2.m d x r1) r2 (h2.bind.imp fun z H3 ⟨dz, ph3, w3, e3, s3, r3, h3⟩ => ?_)
      obtain ⟨k, rfl, h4⟩ := bool_run r3 h3
      refine ⟨k, rfl, ?_⟩
      cases k with
      | false => exact h4.ret (b := .bl false) (by simp [Rep])
      | true => exact ⟨O, ρ, ph3, w3, (Run.bind h4).imp fun z' H4 ⟨d4, ph4, w4, e4, s4, r4, h5⟩ => hr' d2 d4 y z' (Rep.keep (Ext.keep e4 s4) s4.m d2 y (Rep.keep (Ext.keep e3 s3) s3.m d2 y r2)) r4 h5⟩⟩⟩

/-! ### the operations -/
variable {K : PySem.W.Frag} {cm : Nat → Addr}
theorem int_of {H : Hp} {N : NS} {ph : Option Addr} {i : Int} {v : V} (r : Rep K cm H N ph (.int i) v) : v = .int i := by simpa only [Rep] using r
theorem bl_of {H : Hp} {N : NS} {ph : Option Addr} {i : Bool} {v : V} (r : Rep K cm H N ph (.bl i) v) : v = .bl i := by simpa only [Rep] using r
theorem str_of {H : Hp} {N : NS} {ph : Option Addr} {i : Str} {v : V} (r : Rep K cm H N ph (.str i) v) : v = .str i := by simpa only [Rep] using r
theorem non_of {H : Hp} {N : NS} {ph : Option Addr} {v : V} (r : Rep K cm H N ph .non v) : v = .non := by simpa only [Rep] using r
theorem tup_of {H : Hp} {N : NS} {ph : Option Addr} {ds : List D} {v : V} (r : Rep K cm H N ph (.tup ds) v) : ∃ a vs, v = .ref a ∧ TN K H N a vs ∧ RepL K cm H N ph ds vs := by simpa only [Rep] using r
theorem lst_of {H : Hp} {N : NS} {ph : Option Addr} {ds : List D} {v : V} (r : Rep K cm H N ph (.lst ds) v) : ∃ a vs, v = .ref a ∧ (¬ N a ∧ H a = some (.lst vs)) ∧ RepL K cm H N ph ds vs := by simpa only [Rep] using r
theorem frz_of {H : Hp} {N : NS} {ph : Option Addr} {ds : List D} {v : V} (r : Rep K cm H N ph (.frz ds) v) : ∃ a vs, v = .ref a ∧ LN K H N a vs ∧ RepL K cm H N ph ds vs := by simpa only [Rep] using r
/-- an operation on two ints -/
theorem op2_int {f : D → D → M D} {C : Int → Int → Prop} [∀ i j, Decidable (C i j)] {g : Int → Int → D} {gv : Int → Int → V} (hg : ∀ i j {H N ph}, Rep K cm H N ph (g i j) (gv i j))
    (h1 : ∀ i j, f (.int i) (.int j) = if C i j then M.ret (g i j) else M.fail) (h2 : ∀ a b, (∀ i j, ¬ (a = .int i ∧ b = .int j)) → f a b = M.fail) : Op2 K cm f (L2.rI C gv) := by
  intro xa O Wx ρ σ ph H w Q d1 d2 v1 v2 r1 r2 h
  by_cases hh : ∃ i j, d1 = .int i ∧ d2 = .int j
  · obtain ⟨i, j, rfl, rfl⟩ := hh
    rw [h1] at h
    by_cases hc : C i j
    · rw [if_pos hc] at h
      exact ⟨i, j, int_of r1, int_of r2, hc, h.ret (hg i j)⟩
    · rw [if_neg hc] at h; exact h.no
  · rw [h2 d1 d2 fun i j e => hh ⟨i, j, e⟩] at h; exact h.no
theorem op2_int0 {f : D → D → M D} {g : Int → Int → D} {gv : Int → Int → V} (hg : ∀ i j {H N ph}, Rep K cm H N ph (g i j) (gv i j))
    (h1 : ∀ i j, f (.int i) (.int j) = M.ret (g i j)) (h2 : ∀ a b, (∀ i j, ¬ (a = .int i ∧ b = .int j)) → f a b = M.fail) : Op2 K cm f (L2.rI0 gv) := by
  intro xa O Wx ρ σ ph H w Q d1 d2 v1 v2 r1 r2 h
  by_cases hh : ∃ i j, d1 = .int i ∧ d2 = .int j
  · obtain ⟨i, j, rfl, rfl⟩ := hh
    rw [h1] at h
    exact ⟨i, j, int_of r1, int_of r2, h.ret (hg i j)⟩
  · rw [h2 d1 d2 fun i j e => hh ⟨i, j, e⟩] at h; exact h.no
end
end FL

/-! F4: the operations: what HandS's rules ask, from pure data. -/
namespace FL
open PySem
open L2 (V Hp HO Cx Inv VK TE TT TA TS TI TG PE PT PA PS PSs PI PG Ends XK WX RelV Vals Rd upd upd_same upd_ne ne_of_none EP TP AP OpR R2 CallR FnOk Room Binds)
section
variable {K : PySem.W.Frag} {cm : Nat → Addr} {X : Cx}
theorem sub_ok : Op2 K cm subD (L2.rI0 fun i j => .int (i - j)) := op2_int0 (g := fun i j => .int (i - j)) (fun i j => by simp [Rep]) (fun _ _ => rfl) (fun a b h => by cases a <;> cases b <;> first | rfl | exact absurd ⟨rfl, rfl⟩ (h _ _))
theorem mul_ok : Op2 K cm mulD (L2.rI L2.CMulW fun i j => .int (i * j)) := by
  intro xa O Wx ρ σ ph H w Q d1 d2 v1 v2 r1 r2 h
  cases d1 <;> cases d2 <;> try exact h.no
  rename_i i j
  by_cases hc : i.natAbs.log2 + j.natAbs.log2 < 1000000
  · simp only [mulD, if_pos hc] at h
    exact ⟨i, j, int_of r1, int_of r2, hc, h.ret (b := .int (i * j)) (by simp [Rep])⟩
  · simp only [mulD, if_neg hc] at h; exact h.no
/-- // by any divisor but 0 below 2 ^ 9000 -/
def CDivZ (i j : Int) : Prop := j ≠ 0 ∧ j.natAbs.log2 < 9000
theorem op_fdivZ : OpR X (binaryOp .FloorDiv) (L2.rI CDivZ fun i j => .int (i.fdiv j)) := L2.opI fun i j _ _ _ _ _ hc q => PyProof.Rows.floordiv_int hc.1 q (.inl (PyProof.noPylong_of_log2 hc.2))
theorem fdiv_ok : Op2 K cm fdivD (L2.rI CDivZ fun i j => .int (i.fdiv j)) := by
  intro xa O Wx ρ σ ph H w Q d1 d2 v1 v2 r1 r2 h
  cases d1 <;> cases d2 <;> try exact h.no
  rename_i i j
  by_cases hc : j ≠ 0 ∧ j.natAbs.log2 < 9000
  · simp only [fdivD, if_pos hc] at h
    exact ⟨i, j, int_of r1, int_of r2, hc, h.ret (b := .int (i.fdiv j)) (by simp [Rep])⟩
  · simp only [fdivD, if_neg hc] at h; exact h.no
theorem mod_ok : Op2 K cm modD (L2.rI (fun _ j => j ≠ 0) fun i j => .int (i.fmod j)) := by
  intro xa O Wx ρ σ ph H w Q d1 d2 v1 v2 r1 r2 h
  cases d1 <;> cases d2 <;> try exact h.no
  rename_i i j
  by_cases hc : j ≠ 0
  · simp only [modD, if_pos hc] at h
    exact ⟨i, j, int_of r1, int_of r2, hc, h.ret (b := .int (i.fmod j)) (by simp [Rep])⟩
  · simp only [modD, if_neg hc] at h; exact h.no
theorem pow_ok : Op2 K cm powD (L2.rI L2.CPow fun i j => .int (i ^ j.toNat)) := by
  intro xa O Wx ρ σ ph H w Q d1 d2 v1 v2 r1 r2 h
  cases d1 <;> cases d2 <;> try exact h.no
  rename_i i j
  by_cases hc : 0 ≤ j ∧ j ≤ 1000000 ∧ i.natAbs < 2 ^ 64
  · simp only [powD, if_pos hc] at h
    exact ⟨i, j, int_of r1, int_of r2, hc, h.ret (b := .int (i ^ j.toNat)) (by simp [Rep])⟩
  · simp only [powD, if_neg hc] at h; exact h.no
theorem lt_ok : Op2 K cm ltD (L2.rI0 fun i j => .bl (decide (i < j))) := op2_int0 (g := fun i j => .bl (decide (i < j))) (fun i j => by simp [Rep]) (fun _ _ => rfl) (fun a b h => by cases a <;> cases b <;> first | rfl | exact absurd ⟨rfl, rfl⟩ (h _ _))
theorem le_ok : Op2 K cm leD (L2.rI0 fun i j => .bl (decide (i ≤ j))) := op2_int0 (g := fun i j => .bl (decide (i ≤ j))) (fun i j => by simp [Rep]) (fun _ _ => rfl) (fun a b h => by cases a <;> cases b <;> first | rfl | exact absurd ⟨rfl, rfl⟩ (h _ _))
theorem gt_ok : Op2 K cm gtD (L2.rI0 fun i j => .bl (decide (j < i))) := op2_int0 (g := fun i j => .bl (decide (j < i))) (fun i j => by simp [Rep]) (fun _ _ => rfl) (fun a b h => by cases a <;> cases b <;> first | rfl | exact absurd ⟨rfl, rfl⟩ (h _ _))
theorem ge_ok : Op2 K cm geD (L2.rI0 fun i j => .bl (decide (j ≤ i))) := op2_int0 (g := fun i j => .bl (decide (j ≤ i))) (fun i j => by simp [Rep]) (fun _ _ => rfl) (fun a b h => by cases a <;> cases b <;> first | rfl | exact absurd ⟨rfl, rfl⟩ (h _ _))
theorem neg_ok : Op1 K cm negD (L2.rU fun i => .int (-i)) := by
  intro xa O Wx ρ σ ph H w Q d v r h
  cases d <;> try exact h.no
  rename_i i
  exact ⟨i, int_of r, h.ret (b := .int (-i)) (by simp [Rep])⟩
/-! + -/
def rAddS : R2 := fun x y H Q => ∃ i j, x = .str i ∧ y = .str j ∧ i.length + j.length ≤ sizeLine ∧ Q (.str (i ++ j)) H
def rAddI : R2 := fun x y H Q => ∃ i j, x = .int i ∧ y = .int j ∧ Q (.int (i + j)) H
def rAddA (K : PySem.W.Frag) : R2 := fun x y H Q => rAddI x y H Q ∨ rAddS x y H Q ∨ L2.rCat x y H Q ∨ L2.rCatT K x y H Q
theorem op_addA : OpR X (binaryOp .Add) (rAddA X.K) := L2.OpR.or L2.op_add (L2.OpR.or L2.op_add_str (L2.OpR.or L2.op_cat L2.op_catT))
theorem add_ok : Op2 K cm addD (rAddA K) := by
  intro xa O Wx ρ σ ph H w Q d1 d2 v1 v2 r1 r2 h
  cases d1 <;> cases d2 <;> try exact h.no
  · rename_i i j
    exact .inl ⟨i, j, int_of r1, int_of r2, h.ret (b := .int (i + j)) (by simp [Rep])⟩
  · rename_i i j
    by_cases hc : i.length + j.length ≤ line
    · simp only [addD, if_pos hc] at h
      exact .inr (.inl ⟨i, j, str_of r1, str_of r2, by rw [sizeLine_eq]; exact hc, h.ret (b := .str (i ++ j)) (by simp [Rep])⟩)
    · simp only [addD, if_neg hc] at h; exact h.no
  · rename_i xs ys
    obtain ⟨a, vs, rfl, ha, ra⟩ := tup_of r1
    obtain ⟨b, ws, rfl, hb, rb⟩ := tup_of r2
    by_cases hc : xs ≠ [] ∧ xs.length + ys.length ≤ line
    · simp only [addD, if_pos hc] at h
      have la := ra.length
      have lb := rb.length
      refine .inr (.inr (.inr ⟨a, b, vs, ws, rfl, rfl, ha.seq, hb.seq, fun e => hc.1 ?_, ?_, fun e => ?_, fun _ p hp => h.tup hp (ra.append rb)⟩))
      · subst e; cases xs with
        | nil => rfl
        | cons => simp at la
      · have := hc.2; rw [sizeLine_eq]; unfold line at this; omega
      · subst e
        have e0 : ys = [] := by cases ys with
          | nil => rfl
          | cons => simp at lb
        subst e0
        refine h.ret (b := .ref a) ?_
        show Rep K cm _ _ _ _ _
        rw [List.append_nil]
        exact r1
    · simp only [addD, if_neg hc] at h; exact h.no
  · rename_i xs ys
    obtain ⟨a, vs, rfl, ⟨na, ha⟩, ra⟩ := lst_of r1
    obtain ⟨b, ws, rfl, ⟨nb, hb⟩, rb⟩ := lst_of r2
    by_cases hc : xs.length + ys.length ≤ line
    · simp only [addD, if_pos hc] at h
      have la := ra.length
      have lb := rb.length
      exact .inr (.inr (.inl ⟨a, b, vs, ws, rfl, rfl, ha, hb, by rw [sizeLine_eq, ← la, ← lb]; exact hc, fun p hp => h.lst hp (ra.append rb)⟩))
    · simp only [addD, if_neg hc] at h; exact h.no

/-! ==, != -/
mutual
def D.py : D → PyData
  | .non => .none
  | .bl b => .bool b
  | .int i => .int i
  | .str x => .str x
  | .tup xs => .tuple (D.pyL xs)
  | .lst xs => .list (D.pyL xs)
  | .frz _ | .ins _ _ _ | .hand => .none
def D.pyL : List D → List PyData
  | [] => []
  | x :: xs => D.py x :: D.pyL xs
end
mutual
theorem dp_of {H : Hp} {N : NS} {ph : Option Addr} : ∀ (n : Nat) (d : D) (v : V), D.flat n d = true → Rep K cm H N ph d v → L2.Dp K H v d.py
  | _, .non, _, _, r => by rw [non_of r]; exact .non
  | _, .bl b, _, _, r => by rw [bl_of r]; exact .bl b
  | _, .int i, _, _, r => by rw [int_of r]; exact .int i
  | _, .str i, _, _, r => by rw [str_of r]; exact .str i
  | n + 1, .tup xs, _, f, r => by
    obtain ⟨a, vs, rfl, t, rl⟩ := tup_of r
    simp only [D.flat] at f
    simp only [D.py]
    exact .tup t.seq (dp_ofL n xs vs f rl)
  | n + 1, .lst xs, _, f, r => by
    obtain ⟨a, vs, rfl, ⟨_, t⟩, rl⟩ := lst_of r
    simp only [D.flat] at f
    simp only [D.py]
    exact .lst (.inl (.inl t)) (dp_ofL n xs vs f rl)
  | 0, .tup xs, _, f, _ => by simp [D.flat] at f
  | 0, .lst xs, _, f, _ => by simp [D.flat] at f
  | n, .frz xs, _, f, _ => by simp [D.flat] at f
  | n, .ins _ _ _, _, f, _ => by simp [D.flat] at f
  | n, .hand, _, f, _ => by simp [D.flat] at f
theorem dp_ofL {H : Hp} {N : NS} {ph : Option Addr} : ∀ (n : Nat) (ds : List D) (vs : List V), D.flatL n ds = true → RepL K cm H N ph ds vs → L2.DpAll K H vs (D.pyL ds)
  | _, [], _, _, r => by cases r.unnil; simp only [D.pyL]; exact .nil
  | n, d :: ds, _, f, r => by
    obtain ⟨v, vs, rfl, r1, r2⟩ := r.uncons
    simp only [D.flatL, Bool.and_eq_true] at f
    simp only [D.pyL]
    exact .cons (dp_of n d v f.1 r1) (dp_ofL n ds vs f.2 r2)
end
mutual
theorem py_lay : ∀ (n : Nat) (d : D), D.flat n d = true → d.py.canLay0 = true ∧ d.py.depth ≤ n
  | n, .non, _ => by simp [D.py, PyData.canLay0, PyData.depth]
  | n, .bl b, _ => by simp [D.py, PyData.canLay0, PyData.depth]
  | n, .int i, _ => by simp [D.py, PyData.canLay0, PyData.depth]
  | n, .str i, f => by
    refine ⟨?_, by simp [D.py, PyData.depth]⟩
    simp only [D.py, PyData.canLay0]
    simpa [D.flat, PyData.strOk] using f
  | n + 1, .tup xs, f => by
    simp only [D.flat] at f
    obtain ⟨h1, h2⟩ := py_layL n xs f
    simp only [D.py, PyData.canLay0, PyData.depth]
    exact ⟨h1, by omega⟩
  | n + 1, .lst xs, f => by
    simp only [D.flat] at f
    obtain ⟨h1, h2⟩ := py_layL n xs f
    simp only [D.py, PyData.canLay0, PyData.depth]
    exact ⟨h1, by omega⟩
  | 0, .tup xs, f => by simp [D.flat] at f
  | 0, .lst xs, f => by simp [D.flat] at f
  | n, .frz xs, f => by simp [D.flat] at f
  | n, .ins _ _ _, f => by simp [D.flat] at f
  | n, .hand, f => by simp [D.flat] at f
theorem py_layL : ∀ (n : Nat) (ds : List D), D.flatL n ds = true → PyData.canLayAll0 (D.pyL ds) = true ∧ PyData.depthAll (D.pyL ds) ≤ n
  | n, [], _ => by simp [D.pyL, PyData.canLayAll0, PyData.depthAll]
  | n, d :: ds, f => by
    simp only [D.flatL, Bool.and_eq_true] at f
    obtain ⟨h1, h2⟩ := py_lay n d f.1
    obtain ⟨h3, h4⟩ := py_layL n ds f.2
    simp only [D.pyL, PyData.canLayAll0, PyData.depthAll, h1, h3, Bool.and_self, true_and]
    omega
end
mutual
theorem py_eqv : ∀ (n m : Nat) (d e : D), D.flat n d = true → D.flat m e = true → PyData.eqv d.py e.py = D.eqv d e
  | n, m, .non, e, f, g => by cases e <;> first | (simp [D.flat] at g; done) | simp [D.py, PyData.eqv, D.eqv]
  | n, m, .bl b, e, f, g => by cases e <;> first | (simp [D.flat] at g; done) | simp [D.py, PyData.eqv, D.eqv]
  | n, m, .int i, e, f, g => by cases e <;> first | (simp [D.flat] at g; done) | simp [D.py, PyData.eqv, D.eqv]
  | n, m, .str x, e, f, g => by cases e <;> first | (simp [D.flat] at g; done) | simp [D.py, PyData.eqv, D.eqv]
  | n + 1, m, .tup xs, e, f, g => by
    cases e with
    | tup ys =>
      cases m with
      | zero => simp [D.flat] at g
      | succ m =>
        simp only [D.flat] at f g
        simp only [D.py, PyData.eqv, D.eqv]
        exact py_eqvL n m xs ys f g
    | _ => first | (simp [D.flat] at g; done) | simp [D.py, PyData.eqv, D.eqv]
  | n + 1, m, .lst xs, e, f, g => by
    cases e with
    | lst ys =>
      cases m with
      | zero => simp [D.flat] at g
      | succ m =>
        simp only [D.flat] at f g
        simp only [D.py, PyData.eqv, D.eqv]
        exact py_eqvL n m xs ys f g
    | _ => first | (simp [D.flat] at g; done) | simp [D.py, PyData.eqv, D.eqv]
  | 0, _, .tup xs, _, f, _ => by simp [D.flat] at f
  | 0, _, .lst xs, _, f, _ => by simp [D.flat] at f
  | n, _, .frz xs, _, f, _ => by simp [D.flat] at f
  | n, _, .ins _ _ _, _, f, _ => by simp [D.flat] at f
  | n, _, .hand, _, f, _ => by simp [D.flat] at f
theorem py_eqvL : ∀ (n m : Nat) (d e : List D), D.flatL n d = true → D.flatL m e = true → PyData.eqvAll (D.pyL d) (D.pyL e) = D.eqvL d e
  | n, m, [], e, f, g => by cases e <;> simp [D.pyL, PyData.eqvAll, D.eqvL]
  | n, m, x :: xs, [], f, g => by simp [D.pyL, PyData.eqvAll, D.eqvL]
  | n, m, x :: xs, y :: ys, f, g => by
    simp only [D.flatL, Bool.and_eq_true] at f g
    simp only [D.pyL, PyData.eqvAll, D.eqvL]
    rw [py_eqv n m x y f.1 g.1, py_eqvL n m xs ys f.2 g.2]
end
theorem py_shaped {d : D} (f : D.flat 60 d = true) : SeqAt.shaped d.py = true := by
  obtain ⟨h1, h2⟩ := py_lay 60 d f
  unfold SeqAt.shaped
  rw [h1, decide_eq_true (by omega)]; rfl
theorem eq_ok : Op2 K cm eqD (L2.rEqD K) := by
  intro xa O Wx ρ σ ph H w Q d1 d2 v1 v2 r1 r2 h
  unfold eqD at h
  by_cases hc : D.flat 60 d1 = true ∧ D.flat 60 d2 = true
  · rw [if_pos hc] at h
    exact ⟨_, _, dp_of 60 _ _ hc.1 r1, dp_of 60 _ _ hc.2 r2, py_shaped hc.1, py_shaped hc.2, h.ret (by show Rep K cm _ _ _ _ _; simp only [Rep]; rw [py_eqv 60 60 _ _ hc.1 hc.2])⟩
  · rw [if_neg hc] at h; exact h.no
theorem ne_ok : Op2 K cm neD (L2.rNeD K) := by
  intro xa O Wx ρ σ ph H w Q d1 d2 v1 v2 r1 r2 h
  unfold neD at h
  by_cases hc : D.flat 60 d1 = true ∧ D.flat 60 d2 = true
  · rw [if_pos hc] at h
    exact ⟨_, _, dp_of 60 _ _ hc.1 r1, dp_of 60 _ _ hc.2 r2, py_shaped hc.1, py_shaped hc.2, h.ret (by show Rep K cm _ _ _ _ _; simp only [Rep]; rw [py_eqv 60 60 _ _ hc.1 hc.2])⟩
  · rw [if_neg hc] at h; exact h.no

/-! in -/
theorem pyL_any {x : D} (fx : D.flat 60 x = true) : ∀ ds : List D, D.flatL 60 ds = true → ((D.pyL ds).any fun z => PyData.eqv z x.py) = ds.any fun y => D.eqv y x
  | [], _ => by simp [D.pyL]
  | d :: ds, f => by
    simp only [D.flatL, Bool.and_eq_true] at f
    simp only [D.pyL, List.any_cons]
    rw [py_eqv 60 60 d x f.1 fx, pyL_any fx ds f.2]
theorem scal_flat {H : Hp} {N : NS} {ph : Option Addr} {d : D} {v : V} (f : D.scal d = true) (r : Rep K cm H N ph d v) : L2.flatV v = true := by
  cases d with
  | non => rw [non_of r]; rfl
  | bl b => rw [bl_of r]; rfl
  | int i => rw [int_of r]; rfl
  | str x => rw [str_of r]; rfl
  | _ => cases f
theorem scal_eqV {H : Hp} {N : NS} {ph : Option Addr} {d e : D} {v u : V} (f : D.scal d = true) (g : D.scal e = true) (r : Rep K cm H N ph d v) (q : Rep K cm H N ph e u) : L2.eqV v u = D.eqv d e := by
  cases d with
  | non => rw [non_of r]; cases e <;> first | (cases g; done) | (rw [non_of q]; rfl) | (rw [bl_of q]; rfl) | (rw [int_of q]; rfl) | (rw [str_of q]; rfl)
  | bl b => rw [bl_of r]; cases e <;> first | (cases g; done) | (rw [non_of q]; rfl) | (rw [bl_of q]; rfl) | (rw [int_of q]; rfl) | (rw [str_of q]; rfl)
  | int i => rw [int_of r]; cases e <;> first | (cases g; done) | (rw [non_of q]; rfl) | (rw [bl_of q]; rfl) | (rw [int_of q]; rfl) | (rw [str_of q]; rfl)
  | str x => rw [str_of r]; cases e <;> first | (cases g; done) | (rw [non_of q]; rfl) | (rw [bl_of q]; rfl) | (rw [int_of q]; rfl) | (rw [str_of q]; rfl)
  | _ => cases f
theorem scals {H : Hp} {N : NS} {ph : Option Addr} {x : D} {u : V} (fx : D.scal x = true) (q : Rep K cm H N ph x u) : ∀ (ds : List D) (vs : List V), ds.all D.scal = true → RepL K cm H N ph ds vs → vs.all L2.flatV = true ∧ L2.inV u vs = ds.any fun y => D.eqv y x
  | [], _, _, r => by cases r.unnil; exact ⟨rfl, rfl⟩
  | d :: ds, _, f, r => by
    obtain ⟨v, vs, rfl, r1, r2⟩ := r.uncons
    simp only [List.all_cons, Bool.and_eq_true] at f
    obtain ⟨h1, h2⟩ := scals fx q ds vs f.2 r2
    refine ⟨by simp only [List.all_cons, Bool.and_eq_true]; exact ⟨scal_flat f.1 r1, h1⟩, ?_⟩
    unfold L2.inV at h2 ⊢
    simp only [List.any_cons]
    rw [h2, scal_eqV f.1 fx r1 q]
def rInA (K : PySem.W.Frag) : R2 := fun x y H Q => L2.rInD K x y H Q ∨ L2.rIn K false x y H Q
def rNotInA (K : PySem.W.Frag) : R2 := fun x y H Q => L2.rNotInD K x y H Q ∨ L2.rIn K true x y H Q
theorem op_inA (hu : X.A.units + 65 < cLine) : OpR X (compareOp .In) (rInA X.K) := L2.OpR.or (L2.op_inD hu) L2.op_in_seq
theorem op_notInA (hu : X.A.units + 65 < cLine) : OpR X (compareOp .NotIn) (rNotInA X.K) := L2.OpR.or (L2.op_notInD hu) L2.op_notIn_seq
theorem py_shapedL {ds : List D} (f : D.flatL 60 ds = true) : SeqAt.shaped (.list (D.pyL ds)) = true := by
  obtain ⟨h1, h2⟩ := py_layL 60 ds f
  have e1 : (PyData.list (D.pyL ds)).canLay0 = true := by simpa only [PyData.canLay0] using h1
  have e2 : (PyData.list (D.pyL ds)).depth ≤ 64 := by simp only [PyData.depth]; omega
  unfold SeqAt.shaped
  rw [e1, decide_eq_true e2]; rfl
theorem in_ok : Op2 K cm inD (rInA K) := by
  intro xa O Wx ρ σ ph H w Q d1 d2 v1 v2 r1 r2 h
  cases d2 with
  | lst ds =>
    by_cases hc : D.flat 60 d1 = true ∧ D.flatL 60 ds = true
    · simp only [inD, if_pos hc] at h
      obtain ⟨a, vs, rfl, ⟨_, t⟩, rl⟩ := lst_of r2
      exact .inl ⟨_, _, dp_of 60 _ _ hc.1 r1, .lst (.inl (.inl t)) (dp_ofL 60 ds vs hc.2 rl), py_shaped hc.1, py_shapedL hc.2, h.ret (by show Rep K cm _ _ _ _ _; simp only [Rep]; rw [pyL_any hc.1 ds hc.2])⟩
    · simp only [inD, if_neg hc] at h; exact h.no
  | tup ds =>
    by_cases hc : D.scal d1 = true ∧ ds.all D.scal = true
    · simp only [inD, if_pos hc] at h
      obtain ⟨a, vs, rfl, t, rl⟩ := tup_of r2
      obtain ⟨h1, h2⟩ := scals hc.1 r1 ds vs hc.2 rl
      exact .inr ⟨a, vs, rfl, .inr t.seq, scal_flat hc.1 r1, h1, by rw [if_neg Bool.false_ne_true, h2]; exact h.ret (b := .bl (ds.any fun y => D.eqv y d1)) (by simp [Rep])⟩
    · simp only [inD, if_neg hc] at h; exact h.no
  | _ => exact h.no
theorem notIn_ok : Op2 K cm notInD (rNotInA K) := by
  intro xa O Wx ρ σ ph H w Q d1 d2 v1 v2 r1 r2 h
  unfold notInD at h
  cases d2 with
  | lst ds =>
    by_cases hc : D.flat 60 d1 = true ∧ D.flatL 60 ds = true
    · simp only [inD, if_pos hc, ret_bind] at h
      obtain ⟨a, vs, rfl, ⟨_, t⟩, rl⟩ := lst_of r2
      exact .inl ⟨_, _, dp_of 60 _ _ hc.1 r1, .lst (.inl (.inl t)) (dp_ofL 60 ds vs hc.2 rl), py_shaped hc.1, py_shapedL hc.2, h.ret (by show Rep K cm _ _ _ _ _; simp only [Rep]; rw [pyL_any hc.1 ds hc.2])⟩
    · simp only [inD, if_neg hc] at h; exact h.no
  | tup ds =>
    by_cases hc : D.scal d1 = true ∧ ds.all D.scal = true
    · simp only [inD, if_pos hc, ret_bind] at h
      obtain ⟨a, vs, rfl, t, rl⟩ := tup_of r2
      obtain ⟨h1, h2⟩ := scals hc.1 r1 ds vs hc.2 rl
      exact .inr ⟨a, vs, rfl, .inr t.seq, scal_flat hc.1 r1, h1, by rw [if_pos rfl, h2]; exact h.ret (b := .bl (!ds.any fun y => D.eqv y d1)) (by simp [Rep])⟩
    · simp only [inD, if_neg hc] at h; exact h.no
  | _ => exact h.no
/-! is -/
theorem isNon_rep {H : Hp} {N : NS} {ph : Option Addr} {d : D} {v : V} (r : Rep K cm H N ph d v) : decide (v = .non) = d.isNon := by
  cases d with
  | non => rw [non_of r]; rfl
  | bl b => rw [bl_of r]; rfl
  | int i => rw [int_of r]; rfl
  | str x => rw [str_of r]; rfl
  | tup xs => obtain ⟨a, vs, rfl, _⟩ := tup_of r; rfl
  | lst xs => obtain ⟨a, vs, rfl, _⟩ := lst_of r; rfl
  | frz xs => obtain ⟨a, vs, rfl, _⟩ := frz_of r; rfl
  | ins c ns xs => simp only [Rep] at r; obtain ⟨a, dx, vs, rfl, _⟩ := r; rfl
  | hand => simp only [Rep] at r; obtain ⟨p, _, rfl⟩ := r; rfl
theorem isNon_ok : Op2 K cm isNonD (fun x y H Q => y = .non ∧ Q (.bl (decide (x = .non))) H) := by
  intro xa O Wx ρ σ ph H w Q d1 d2 v1 v2 r1 r2 h
  cases d2 <;> try exact h.no
  exact ⟨non_of r2, by rw [isNon_rep r1]; exact h.ret (b := .bl d1.isNon) (by simp [Rep])⟩
theorem notNon_ok : Op2 K cm notNonD (fun x y H Q => y = .non ∧ Q (.bl (!decide (x = .non))) H) := by
  intro xa O Wx ρ σ ph H w Q d1 d2 v1 v2 r1 r2 h
  cases d2 <;> try exact h.no
  exact ⟨non_of r2, by rw [isNon_rep r1]; exact h.ret (b := .bl (!d1.isNon)) (by simp [Rep])⟩
theorem is_ok : Op2 K cm isD L2.rIsB := by
  intro xa O Wx ρ σ ph H w Q d1 d2 v1 v2 r1 r2 h
  cases d1 <;> cases d2 <;> try exact h.no
  rename_i i j
  exact ⟨i, j, bl_of r1, bl_of r2, h.ret (b := .bl _) (by simp [Rep])⟩
theorem isNot_ok : Op2 K cm isNotD L2.rNotB := by
  intro xa O Wx ρ σ ph H w Q d1 d2 v1 v2 r1 r2 h
  cases d1 <;> cases d2 <;> try exact h.no
  rename_i i j
  exact ⟨i, j, bl_of r1, bl_of r2, h.ret (b := .bl _) (by simp [Rep])⟩

/-! items -/
theorem ixP_eq (n : Nat) (i : Int) : L2.ixN n i = ixP n i := by
  unfold L2.ixN ixP
  by_cases h0 : 0 ≤ i
  · by_cases h1 : i < n
    · simp [h0, h1]
    · have h2 : ¬ i < 0 := by omega
      simp [h0, h1, h2]
  · have h2 : i < 0 := by omega
    by_cases h1 : -(n : Int) ≤ i
    · have h3 : 0 ≤ i + n := by omega
      simp [h0, h1, h2, h3]
    · have h3 : ¬ 0 ≤ i + n := by omega
      simp [h0, h1, h2, h3]
theorem itemAt_eq {α : Type} (xs : List α) (i : Int) : L2.atI xs i = itemAt xs i := by
  unfold L2.atI itemAt
  rw [ixP_eq]
  cases ixP xs.length i <;> rfl
theorem RepL.item {H : Hp} {N : NS} {ph : Option Addr} {ds : List D} {vs : List V} {i : Int} {d : D} (r : RepL K cm H N ph ds vs) (e : itemAt ds i = some d) : ∃ v, L2.atI vs i = some v ∧ Rep K cm H N ph d v := by
  rw [itemAt_eq]
  unfold itemAt at e ⊢
  rw [← r.length]
  cases q : ixP ds.length i with
  | none => rw [q] at e; cases e
  | some j => rw [q] at e; exact r.get e
theorem ixL_run {xa O Wx ρ σ ph H w} {Q : VK} {ds : List D} {vs : List V} {d2 : D} {v2 : V} (r : RepL K cm H (OO O ph) ph ds vs) (r2 : Rep K cm H (OO O ph) ph d2 v2) (h : Run K cm xa O (relV K cm O) Wx ρ σ ph H w (ixL ds d2) Q) :
    ∃ i v, v2 = .int i ∧ L2.atI vs i = some v ∧ Q v H := by
  cases d2 with
  | int i =>
    unfold ixL at h
    simp only at h
    cases e : itemAt ds i with
    | none => rw [e] at h; exact h.no
    | some d =>
      rw [e] at h
      obtain ⟨v, e1, r3⟩ := r.item e
      exact ⟨i, v, int_of r2, e1, h.ret r3⟩
  | _ => exact h.no
theorem ix_ok : Op2 K cm ixD (L2.rIx K) := by
  intro xa O Wx ρ σ ph H w Q d1 d2 v1 v2 r1 r2 h
  cases d1 with
  | lst ds =>
    obtain ⟨a, vs, rfl, ⟨_, t⟩, rl⟩ := lst_of r1
    obtain ⟨i, v, e1, e2, q⟩ := ixL_run rl r2 h
    exact .inl ⟨a, vs, i, v, rfl, e1, .inl (.inl t), e2, q⟩
  | frz ds =>
    obtain ⟨a, vs, rfl, t, rl⟩ := frz_of r1
    obtain ⟨i, v, e1, e2, q⟩ := ixL_run rl r2 h
    exact .inl ⟨a, vs, i, v, rfl, e1, t.seq, e2, q⟩
  | tup ds =>
    obtain ⟨a, vs, rfl, t, rl⟩ := tup_of r1
    obtain ⟨i, v, e1, e2, q⟩ := ixL_run rl r2 h
    exact .inr (.inl ⟨a, vs, i, v, rfl, e1, t.seq, e2, q⟩)
  | hand =>
    simp only [Rep] at r1
    obtain ⟨p, rfl, rfl⟩ := r1
    have ha := h.hand
    cases w with
    | none => exact ha.elim
    | some hs =>
      obtain ⟨vs, t, rl⟩ := ha
      obtain ⟨i, v, e1, e2, q⟩ := ixL_run rl r2 (⟨h.env, h.hand, h.post⟩ : Run K cm xa O (relV K cm O) Wx ρ σ (some p) H (some hs) (ixL hs d2) Q)
      exact .inl ⟨p, vs, i, v, rfl, e1, .inl (.inl t), e2, q⟩
  | _ => exact h.no
theorem px_ix {a b : Expr} {fa fb : EF} {c : Cfg} {pos : Pos} (ha : PX X c a fa) (hb : PX X c b fb) (hs : L2.PlainIx b := by exact fun _ _ => rfl) : PX X c (.Subscript a b pos) (eBin ixD fa fb) :=
  PE.to (L2.pe_ix L2.ix_seq ha hb hs) (bin_to ix_ok)

/-! slices -/
theorem cutAt_eq (n d : Nat) (o : Option Int) : HT.sIx n d o = cutAt n d o := by
  cases o with
  | none => rfl
  | some i =>
    show (if i < 0 then (i + (n : Int)).toNat else min i.toNat n) = (if 0 ≤ i then min i.toNat n else (i + (n : Int)).toNat)
    by_cases h : i < 0
    · rw [if_pos h, if_neg (by omega)]
    · rw [if_neg h, if_pos (by omega)]
theorem cutL_eq (vs : List V) (lo hi : Option Int) : L2.cutV vs lo hi = cutL vs lo hi := by
  unfold L2.cutV cutL
  rw [cutAt_eq, cutAt_eq]
theorem RepL.cut {H : Hp} {N : NS} {ph : Option Addr} {ds : List D} {vs : List V} (r : RepL K cm H N ph ds vs) (lo hi : Option Int) : RepL K cm H N ph (cutL ds lo hi) (cutL vs lo hi) := by
  unfold cutL
  rw [← r.length]
  exact (r.drop _).take _
def rSlA (K : PySem.W.Frag) : V → Option Int → Option Int → Hp → VK → Prop := fun x lo hi H Q => L2.rSlL K x lo hi H Q ∨ L2.rSlT K x lo hi H Q
theorem sl_all : L2.SlR X (rSlA X.K) := L2.SlR.or L2.sl_list L2.sl_tup
theorem slice_ok {xa O Wx ρ σ ph H w} {Q : VK} {d : D} {v : V} {lo hi : Option Int} (r : Rep K cm H (OO O ph) ph d v) (h : Run K cm xa O (relV K cm O) Wx ρ σ ph H w (sliceD d lo hi) Q) : rSlA K v lo hi H Q := by
  cases d with
  | lst ds =>
    obtain ⟨a, vs, rfl, ⟨_, t⟩, rl⟩ := lst_of r
    exact .inl ⟨a, vs, rfl, .inl (.inl t), fun p hp => by rw [cutL_eq]; exact h.lst hp (rl.cut lo hi)⟩
  | tup ds =>
    obtain ⟨a, vs, rfl, t, rl⟩ := tup_of r
    by_cases hc : ¬ (cutAt ds.length 0 lo = 0 ∧ cutAt ds.length ds.length hi = ds.length)
    · simp only [sliceD, if_pos hc] at h
      exact .inr ⟨a, vs, rfl, t.seq, by rw [cutAt_eq, cutAt_eq, ← rl.length]; exact hc, fun p hp => by rw [cutL_eq]; exact h.tup hp (rl.cut lo hi)⟩
    · simp only [sliceD, if_neg hc] at h; exact h.no
  | _ => exact h.no
/-- a part of a slice -/
abbrev partF : Option EF → Env → M (Option Int) := fun o ρ => match o with
  | none => M.ret none
  | some e => M.bind (e ρ) fun y => match y with | .int i => M.ret (some i) | _ => M.fail
def relO : Hp → Option Addr → Option Int → Option Int → Prop := fun _ _ a b => a = b
abbrev POX (X : Cx) (c : Cfg) (e : Option Expr) (f : Option EF) : Prop := L2.PO X e fun σ H Q => ∃ O ρ ph w, Run X.K c.cm c.xa O relO c.Wx ρ σ ph H w (partF f ρ) Q
theorem PO.to {e : Option Expr} {t t' : L2.TO} (h : L2.PO X e t) (m : ∀ σ H Q, t' σ H Q → t σ H Q) : L2.PO X e t' := by
  obtain ⟨h⟩ := h
  exact ⟨fun pins s σ H Q I q => h pins s σ H Q I (m σ H Q q)⟩
variable {c : Cfg}
theorem pox_none : POX X c none none := PO.to L2.po_none fun σ H Q ⟨O, ρ, ph, w, h⟩ => h.ret (b := none) rfl
theorem pox_some {e : Expr} {fe : EF} (h : PX X c e fe) : POX X c (some e) (some fe) := PO.to (L2.po_some h) fun σ H Q ⟨O, ρ, ph, w, h⟩ => ⟨O, ρ, ph, w, h.bind.imp fun v H1 ⟨d, ph1, w1, e1, s1, r1, h1⟩ => by
  cases d with
  | int i => exact ⟨i, int_of r1, h1.ret (b := some i) rfl⟩
  | _ => exact h1.no⟩
theorem px_slice {e : Expr} {fe : EF} {lo hi : Option Expr} {fl fh : Option EF} {p2 pos : Pos} (he : PX X c e fe) (hl : POX X c lo fl) (hu : POX X c hi fh) : PX X c (.Subscript e (.Slice lo hi none p2) pos) (eSlice fe fl fh) :=
  PE.to (L2.pe_slice sl_all he hl hu) fun σ H Q ⟨O, ρ, ph, w, h⟩ => ⟨O, ρ, ph, w, h.bind.imp fun v H1 ⟨d, ph1, w1, e1, s1, r1, h1⟩ =>
    ⟨O, ρ, ph1, w1, (Run.bind (rel := relO) h1).imp fun l H2 ⟨l', ph2, w2, e2, s2, r2, h2⟩ => ⟨O, ρ, ph2, w2, (Run.bind (rel := relO) h2).imp fun u H3 ⟨u', ph3, w3, e3, s3, r3, h3⟩ => by
      cases r2; cases r3
      exact slice_ok (Rep.keep (Ext.keep e3 s3) s3.m d v (Rep.keep (Ext.keep e2 s2) s2.m d v r1)) h3⟩⟩⟩

/-! built-ins of one argument, of two -/
def un1 (f : D → M D) : List D → M D
  | [d] => f d
  | _ => M.fail
def bin2 (f : D → D → M D) : List D → M D
  | [d, e] => f d e
  | _ => M.fail
theorem un1_run {xa O Wx ρ σ ph H w} {Q : VK} {f : D → M D} {ds : List D} {vs : List V} (r : RepL K cm H (OO O ph) ph ds vs) (h : Run K cm xa O (relV K cm O) Wx ρ σ ph H w (un1 f ds) Q) :
    ∃ d v, vs = [v] ∧ Rep K cm H (OO O ph) ph d v ∧ Run K cm xa O (relV K cm O) Wx ρ σ ph H w (f d) Q := by
  cases ds with
  | nil => exact h.no
  | cons d ds =>
    cases ds with
    | nil =>
      obtain ⟨v, vs, rfl, r1, r2⟩ := r.uncons
      cases r2.unnil
      exact ⟨d, v, rfl, r1, h⟩
    | cons => exact h.no
theorem bin2_run {xa O Wx ρ σ ph H w} {Q : VK} {f : D → D → M D} {ds : List D} {vs : List V} (r : RepL K cm H (OO O ph) ph ds vs) (h : Run K cm xa O (relV K cm O) Wx ρ σ ph H w (bin2 f ds) Q) :
    ∃ d e v u, vs = [v, u] ∧ Rep K cm H (OO O ph) ph d v ∧ Rep K cm H (OO O ph) ph e u ∧ Run K cm xa O (relV K cm O) Wx ρ σ ph H w (f d e) Q := by
  cases ds with
  | nil => exact h.no
  | cons d ds =>
    cases ds with
    | nil => exact h.no
    | cons e ds =>
      cases ds with
      | nil =>
        obtain ⟨v, vs, rfl, r1, r2⟩ := r.uncons
        obtain ⟨u, us, rfl, r3, r4⟩ := r2.uncons
        cases r4.unnil
        exact ⟨d, e, v, u, rfl, r1, r3, h⟩
      | cons => exact h.no
theorem le_size {n : Nat} (h : n ≤ line) : n ≤ sizeLine := Nat.le_trans h (Nat.le_of_eq sizeLine_eq.symm)
theorem lenV_str {H : Hp} {x : Str} (h : x.length ≤ line) : L2.LenV K (.str x) H x.length := And.intro (le_size h) (Eq.refl _)
theorem len_ok : OpL K cm (un1 lenD) (fun xs H Q => ∃ x n, xs = [x] ∧ L2.LenV K x H n ∧ Q (.int n) H) := by
  intro xa O Wx ρ σ ph H w Q ds vs r h
  obtain ⟨d, v, rfl, r1, h1⟩ := un1_run r h
  cases d with
  | str x =>
    rw [str_of r1]
    by_cases hl : x.length ≤ line
    · rw [lenD_str, if_pos hl] at h1
      exact ⟨.str x, x.length, rfl, lenV_str hl, h1.ret (b := .int (x.length : Int)) (by simp [Rep])⟩
    · rw [lenD_str, if_neg hl] at h1; exact h1.no
  | lst ds =>
    obtain ⟨a, vs, rfl, ⟨_, t⟩, rl⟩ := lst_of r1
    exact ⟨.ref a, vs.length, rfl, .inl ⟨vs, .inl (.inl t), rfl⟩, h1.ret (b := .int (vs.length : Int)) (by simp [Rep, rl.length])⟩
  | frz ds =>
    obtain ⟨a, vs, rfl, t, rl⟩ := frz_of r1
    exact ⟨.ref a, vs.length, rfl, .inl ⟨vs, t.seq, rfl⟩, h1.ret (b := .int (vs.length : Int)) (by simp [Rep, rl.length])⟩
  | tup ds =>
    obtain ⟨a, vs, rfl, t, rl⟩ := tup_of r1
    exact ⟨.ref a, vs.length, rfl, .inr ⟨vs, t.seq, rfl⟩, h1.ret (b := .int (vs.length : Int)) (by simp [Rep, rl.length])⟩
  | hand =>
    simp only [Rep] at r1
    obtain ⟨p, rfl, rfl⟩ := r1
    have ha := h1.hand
    cases w with
    | none => exact ha.elim
    | some hs =>
      obtain ⟨vs, t, rl⟩ := ha
      exact ⟨.ref p, vs.length, rfl, .inl ⟨vs, .inl (.inl t), rfl⟩, (⟨h1.env, h1.hand, h1.post⟩ : Run K cm xa O (relV K cm O) Wx ρ σ (some p) H (some hs) (M.ret (.int hs.length)) Q).ret (b := .int (vs.length : Int)) (by simp [Rep, rl.length])⟩
  | _ => exact h1.no
theorem int_ok : OpL K cm (un1 intD) (fun xs H Q => (∃ i, xs = [.int i] ∧ Q (.int i) H) ∨ ∃ k, xs = [.bl k] ∧ Q (.int (if k then 1 else 0)) H) := by
  intro xa O Wx ρ σ ph H w Q ds vs r h
  obtain ⟨d, v, rfl, r1, h1⟩ := un1_run r h
  cases d with
  | int i => rw [int_of r1]; exact .inl ⟨i, rfl, h1.ret (b := .int _) (by simp [Rep])⟩
  | bl i => rw [bl_of r1]; exact .inr ⟨i, rfl, h1.ret (b := .int _) (by simp [Rep])⟩
  | _ => exact h1.no
theorem abs_ok : OpL K cm (un1 absD) (fun xs H Q => ∃ i, xs = [.int i] ∧ Q (.int (if i < 0 then -i else i)) H) := by
  intro xa O Wx ρ σ ph H w Q ds vs r h
  obtain ⟨d, v, rfl, r1, h1⟩ := un1_run r h
  cases d with
  | int i => rw [int_of r1]; exact ⟨i, rfl, h1.ret (b := .int _) (by simp [Rep])⟩
  | _ => exact h1.no
theorem str_ok : OpL K cm (un1 strD) (fun xs H Q => ∃ i, xs = [.int i] ∧ i.natAbs.log2 < 1920 ∧ Q (.str (toString i)) H) := by
  intro xa O Wx ρ σ ph H w Q ds vs r h
  obtain ⟨d, v, rfl, r1, h1⟩ := un1_run r h
  cases d with
  | int i =>
    rw [int_of r1]
    by_cases hl : i.natAbs.log2 < 1920
    · simp only [strD, if_pos hl] at h1
      exact ⟨i, rfl, hl, h1.ret (b := .str _) (by simp [Rep])⟩
    · simp only [strD, if_neg hl] at h1; exact h1.no
  | _ => exact h1.no
theorem gcd_ok : OpL K cm (bin2 gcdD) L2.rGcd := by
  intro xa O Wx ρ σ ph H w Q ds vs r h
  obtain ⟨d, e, v, u, rfl, r1, r2, h1⟩ := bin2_run r h
  cases d <;> cases e <;> try exact h1.no
  rename_i i j
  exact ⟨i, j, by rw [int_of r1, int_of r2], h1.ret (b := .int _) (by simp [Rep])⟩
theorem tuple_ok : OpL K cm (un1 tupD) (fun xs H Q => ∃ p ys, xs = [.ref p] ∧ ((L2.SqL K H p ys ∧ ∀ l, H l = none → Q (.ref l) (upd H l (.tup ys))) ∨ (L2.SqT K H p ys ∧ Q (.ref p) H))) := by
  intro xa O Wx ρ σ ph H w Q ds vs r h
  obtain ⟨d, v, rfl, r1, h1⟩ := un1_run r h
  cases d with
  | lst ds =>
    obtain ⟨a, vs, rfl, ⟨_, t⟩, rl⟩ := lst_of r1
    exact ⟨a, vs, rfl, .inl ⟨.inl (.inl t), fun p hp => h1.tup hp rl⟩⟩
  | tup ds =>
    obtain ⟨a, vs, rfl, t, rl⟩ := tup_of r1
    exact ⟨a, vs, rfl, .inr ⟨t.seq, h1.ret r1⟩⟩
  | _ => exact h1.no
theorem list_ok : OpL K cm (un1 listD) (fun xs H Q => ∃ p ys, xs = [.ref p] ∧ (L2.SqL K H p ys ∨ L2.SqT K H p ys) ∧ ∀ l, H l = none → Q (.ref l) (upd H l (.lst ys))) := by
  intro xa O Wx ρ σ ph H w Q ds vs r h
  obtain ⟨d, v, rfl, r1, h1⟩ := un1_run r h
  cases d with
  | lst ds =>
    obtain ⟨a, vs, rfl, ⟨_, t⟩, rl⟩ := lst_of r1
    exact ⟨a, vs, rfl, .inl (.inl (.inl t)), fun p hp => h1.lst hp rl⟩
  | tup ds =>
    obtain ⟨a, vs, rfl, t, rl⟩ := tup_of r1
    exact ⟨a, vs, rfl, .inr t.seq, fun p hp => h1.lst hp rl⟩
  | _ => exact h1.no
end
end FL

/-! F5: isinstance, constants, f-strings, new lists; what a def promises, calls. -/
namespace FL
open PySem
open L2 (V Hp HO Cx Inv VK XK TE TT TA TS TI TG PE PT PA PS PSs PI PG Ends WX RelV Vals Rd upd upd_same upd_ne ne_of_none EP TP AP OpR R2 CallR FnOk Room Binds)

/-! ### isinstance -/
def Ty.nm : Ty → String
  | .int => "int" | .bool => "bool" | .str => "str" | .tuple => "tuple" | .list => "list" | .dict => "dict" | .cls _ => ""
def Ty.ok : Ty → Bool
  | .cls _ => false
  | _ => true
def D.tyNm : D → Option String
  | .non => some "NoneType" | .bl _ => some "bool" | .int _ => some "int" | .str _ => some "str" | .tup _ => some "tuple" | .lst _ | .frz _ | .hand => some "list"
  | .ins _ _ _ => none
section
variable {K : PySem.W.Frag} {cm : Nat → Addr} {X : Cx} {c : Cfg} {pos : Pos}
theorem tyX_of {H : Hp} {O : NS} {ph : Option Addr} {w : Wd} {d : D} {v : V} {n : String} (hh : HandOk K cm H O ph w) (r : Rep K cm H (OO O ph) ph d v) (e : d.tyNm = some n) : L2.TyX K H v (.type n) := by
  cases d with
  | non => cases e; rw [non_of r]; exact .base .non
  | bl b => cases e; rw [bl_of r]; exact .base (.bl b)
  | int b => cases e; rw [int_of r]; exact .base (.int b)
  | str b => cases e; rw [str_of r]; exact .base (.str b)
  | tup ds =>
    cases e
    obtain ⟨a, vs, rfl, t, _⟩ := tup_of r
    rcases t with ⟨_, t | ⟨o, t⟩⟩ | ⟨o, its, k, h1, h2, _⟩
    · exact .base (.tup t)
    · exact .fTuple t
    · exact .kTuple h1 h2
  | lst ds =>
    cases e
    obtain ⟨a, vs, rfl, ⟨_, t⟩, _⟩ := lst_of r
    exact .base (.lst t)
  | frz ds =>
    cases e
    obtain ⟨a, vs, rfl, t, _⟩ := frz_of r
    rcases t with ⟨_, t | ⟨o, t⟩⟩ | ⟨o, its, k, h1, h2, _⟩
    · exact .base (.lst t)
    · exact .base (.frz t)
    · exact .kList h1 h2
  | hand =>
    cases e
    simp only [Rep] at r
    obtain ⟨p, e, rfl⟩ := r
    obtain ⟨vs, t⟩ := hh.tr e
    exact .base (.lst t)
  | ins => cases e
theorem kit_all (t : Ty) (ht : t.ok = true) (d : D) {n : String} (e : d.tyNm = some n) : L2.kitB n t.nm = some (isT t d) := by
  cases d <;> simp only [D.tyNm, Option.some.injEq, reduceCtorEq] at e <;> subst e <;> cases t <;> first | (cases ht; done) | (simp only [isT, Ty.nm]; decide +kernel)
def isiB (ts : List Ty) (d : D) : M D := match d.tyNm with
  | some _ => if ts.all Ty.ok = true then M.ret (.bl (ts.any fun t => isT t d)) else M.fail
  | none => M.fail
theorem isi_run {xa O Wx ρ σ ph H w} {Q : VK} {ts : List Ty} {d : D} (h : Run K cm xa O (relV K cm O) Wx ρ σ ph H w (isiB ts d) Q) : ∃ n, d.tyNm = some n ∧ ts.all Ty.ok = true ∧ Run K cm xa O (relV K cm O) Wx ρ σ ph H w (M.ret (.bl (ts.any fun t => isT t d))) Q := by
  unfold isiB at h
  cases e : d.tyNm with
  | none => rw [e] at h; exact h.no
  | some n =>
    rw [e] at h
    by_cases hc : ts.all Ty.ok = true
    · simp only [if_pos hc] at h; exact ⟨n, rfl, hc, h⟩
    · simp only [if_neg hc] at h; exact h.no
/-- isinstance(e, T) -/
theorem px_isi {e : Expr} {fe : EF} {x : Str} {p p2 : Pos} (t : Ty) (hg : L2.Gl X "isinstance") (hm : X.mg "isinstance" = none) (hgT : L2.Gl X x) (hmT : X.mg x = none) (hvT : bootBuiltins x = some (.type t.nm)) (he : PX X c e fe)
    (hnT : x ≠ "__name__" := by decide) (hdT : (x == ("__debug__" : Str)) = false := by decide) (hv : bootBuiltins "isinstance" = some (.builtin "isinstance") := by decide +kernel)
    (hs : starEach (e :: [.Name x p2]) X.env = (false, eval e X.env) :: starEach [.Name x p2] X.env := by rfl) (hpl : (backTo pos (starEach [.Name x p2] X.env)).any (·.1) = false := by rfl) : PX X c (.Call (.Name "isinstance" p) (e :: [.Name x p2]) [] pos) (eUn (isiB [t]) fe) :=
  PE.to (L2.pe_callB L2.call_isi hg hm hv (L2.pa_cons he (L2.pa_cons (L2.pe_bltn (v := .ty t.nm) hgT hmT hvT rfl hnT hdT) L2.pa_nil (by rfl)) hs) (by decide) (by decide) hs hpl) fun σ H Q ⟨O, ρ, ph, w, h⟩ => ⟨O, ρ, ph, w, h.bind.imp fun v H1 ⟨d, ph1, w1, e1, s1, r1, h1⟩ => by
    obtain ⟨n, en, hk, h2⟩ := isi_run h1
    simp only [List.all_cons, List.all_nil, Bool.and_true] at hk
    exact ⟨v, .ty t.nm, .type n, .type t.nm, _, rfl, .ty _, tyX_of h2.hand r1 en, L2.kit_ty (kit_all t hk d en), h2.ret (b := .bl (isT t d)) (by simp [Rep])⟩⟩
/-- isinstance(e, (T, U)) -/
theorem px_isi2 {e : Expr} {fe : EF} {x y : Str} {p p2 p3 p4 : Pos} {k : Nat} (t u : Ty) (hg : L2.Gl X "isinstance") (hm : X.mg "isinstance" = none) (hgT : L2.Gl X x) (hmT : X.mg x = none) (hvT : bootBuiltins x = some (.type t.nm)) (hgU : L2.Gl X y) (hmU : X.mg y = none) (hvU : bootBuiltins y = some (.type u.nm)) (he : PX X c e fe)
    (hnT : x ≠ "__name__" := by decide) (hdT : (x == ("__debug__" : Str)) = false := by decide) (hnU : y ≠ "__name__" := by decide) (hdU : (y == ("__debug__" : Str)) = false := by decide) (hv : bootBuiltins "isinstance" = some (.builtin "isinstance") := by decide +kernel)
    (hs : starEach (e :: [.Tuple [.Name x p2, .Name y p3] k p4]) X.env = (false, eval e X.env) :: starEach [.Tuple [.Name x p2, .Name y p3] k p4] X.env := by rfl) (hpl : (backTo pos (starEach [.Tuple [.Name x p2, .Name y p3] k p4] X.env)).any (·.1) = false := by rfl) :
    PX X c (.Call (.Name "isinstance" p) (e :: [.Tuple [.Name x p2, .Name y p3] k p4]) [] pos) (eUn (isiB [t, u]) fe) :=
  PE.to (L2.pe_callB L2.call_isiT hg hm hv (L2.pa_cons he (L2.pa_cons (L2.pe_tup (L2.pa_cons (L2.pe_bltn (v := .ty t.nm) hgT hmT hvT rfl hnT hdT) (L2.pa_cons (L2.pe_bltn (v := .ty u.nm) hgU hmU hvU rfl hnU hdU) L2.pa_nil (by rfl)) (by rfl))) L2.pa_nil (by rfl)) hs) (by decide) (by decide) hs hpl)
    fun σ H Q ⟨O, ρ, ph, w, h⟩ => ⟨O, ρ, ph, w, h.bind.imp fun v H1 ⟨d, ph1, w1, e1, s1, r1, h1⟩ => by
    obtain ⟨n, en, hk, h2⟩ := isi_run h1
    simp only [List.all_cons, List.all_nil, Bool.and_true, Bool.and_eq_true] at hk
    refine ⟨by show 2 ≤ sizeLine; decide, fun tp htp => ?_⟩
    have x2 : Ext ph1 H1 (upd H1 tp (.tup [.ty t.nm, .ty u.nm])) := ext_new htp
    have hd2 := h2.hand.new (o := .tup [.ty t.nm, .ty u.nm]) htp
    have r2 := Rep.keep (Ext.keep x2 .refl) (fun _ e => e) d v r1
    show L2.rIsiT X.K [v, .ref tp] (upd H1 tp (.tup [.ty t.nm, .ty u.nm])) Q
    refine ⟨v, tp, _, .type n, [.type t.nm, .type u.nm], _, rfl, upd_same, .cons (.ty _) (.cons (.ty _) .nil), tyX_of hd2 r2 en, ?_, h2.ret_at (b := .bl ([t, u].any fun t => isT t d)) x2 hd2 (by simp [Rep])⟩
    refine L2.kitAny_cons (L2.kit_ty (kit_all t hk.1 d en)) (fun hf => L2.kitAny_cons (L2.kit_ty (kit_all u hk.2 d en)) (fun hf2 => ?_) fun hf2 => ?_) fun hf => ?_
    · simp [List.any_cons, hf, hf2, L2.kitAny_nil]
    · simp [List.any_cons, hf2]
    · simp [List.any_cons, hf]⟩

/-! ### constants of the module -/
theorem px_glob {x : Str} {v : V} {u : Value} {d : D} (hg : L2.Gl X x) (hm : X.mg x = some u) (hr : RelV v u) (r : ∀ {H N ph}, Rep X.K c.cm H N ph d v) (hd : (x == ("__debug__" : Str)) = false := by decide) : PX X c (.Name x pos) (eC d) :=
  PE.to (L2.pe_glob hg hm hr hd) fun σ H Q ⟨O, ρ, ph, w, h⟩ => show Q v H from h.ret r
theorem px_gint {x : Str} {i : Int} {t : Tok} (hg : L2.Gl X x) (hm : X.mg x = some (.int i t)) (hd : (x == ("__debug__" : Str)) = false := by decide) : PX X c (.Name x pos) (eC (.int i)) :=
  px_glob (v := .int i) hg hm ⟨t, rfl⟩ (by intros; simp [Rep]) hd
/-- a pair of ints that stands in the module -/
theorem px_gtup2 {x : Str} {a : Addr} {i j : Int} {ti tj : Tok} {dd : Option Addr} {sl : Array (Option Value)} (hg : L2.Gl X x) (hm : X.mg x = some (.ref a)) (hk : X.K.lookup a = some ⟨.type "tuple", dd, .seq #[.int i ti, .int j tj] 0, sl⟩)
    (hd : (x == ("__debug__" : Str)) = false := by decide) : PX X c (.Name x pos) (eC (.tup [.int i, .int j])) :=
  px_glob (v := .ref a) hg hm rfl (by
    intros
    simp only [Rep]
    exact ⟨a, [.int i, .int j], rfl, .inr ⟨_, _, _, hk, rfl, rfl, by rw [sizeLine_eq]; exact (by decide : 2 ≤ 16777216), .cons ⟨ti, rfl⟩ (.cons ⟨tj, rfl⟩ .nil)⟩, RepL.cons (by simp [Rep]) (RepL.cons (by simp [Rep]) RepL.nil)⟩) hd

/-! ### f-strings -/
end
def jsM : List EF → Str → Env → M Str
  | [], acc, _ => M.ret acc
  | e :: es, acc, ρ => M.bind (e ρ) fun x => match x with
    | .str y => if (acc ++ y).length ≤ line then jsM es (acc ++ y) ρ else M.fail
    | _ => M.fail
/-- f'..' -/
def eJs (es : List EF) : EF := fun ρ => M.bind (jsM es Str.empty ρ) fun s => M.ret (.str s)
/-- {e} of a text or an int -/
def fmtD : D → M D
  | .str x => if x.length ≤ line then M.ret (.str x) else M.fail
  | .int i => if i.natAbs.log2 < 1920 then M.ret (.str (Str.ofString (toString i))) else M.fail
  | _ => M.fail
section
variable {K : PySem.W.Frag} {cm : Nat → Addr} {X : Cx} {c : Cfg} {pos : Pos} {e : Expr} {fe : EF} {es : List Expr} {fs : List EF}
theorem px_fmt (he : PX X c e fe) : PX X c (.FormattedValue e (-1) none pos) (eUn fmtD fe) :=
  PE.to (L2.pe_fmt he) fun σ H Q ⟨O, ρ, ph, w, h⟩ => ⟨O, ρ, ph, w, h.bind.imp fun v H1 ⟨d, ph1, w1, e1, s1, r1, h1⟩ => by
    cases d with
    | str x =>
      by_cases hl : x.length ≤ line
      · simp only [fmtD, if_pos hl] at h1
        exact .inl ⟨x, str_of r1, le_size hl, h1.ret (b := .str x) (by simp [Rep])⟩
      · simp only [fmtD, if_neg hl] at h1; exact h1.no
    | int i =>
      by_cases hl : i.natAbs.log2 < 1920
      · simp only [fmtD, if_pos hl] at h1
        exact .inr ⟨i, int_of r1, hl, h1.ret (b := .str _) (by simp [Rep])⟩
      · simp only [fmtD, if_neg hl] at h1; exact h1.no
    | _ => exact h1.no⟩
inductive PJX (X : Cx) (c : Cfg) : List Expr → List EF → Prop where
  | nil : PJX X c [] []
  | cons {e : Expr} {f : EF} {es : List Expr} {fs : List EF} (h : PX X c e f) (r : PJX X c es fs) : PJX X c (e :: es) (f :: fs)
theorem PJX.pj {es : List Expr} {fs : List EF} (h : PJX X c es fs) : L2.PJ X es (fs.map fun f => tX X.K c.cm c.xa c.Wx f) := by
  induction h with
  | nil => exact .nil
  | cons h _ ih => exact .cons h ih
theorem js_run {xa O Wx ρ σ} {Q : Str → Hp → Prop} : ∀ (fs : List EF) (acc : Str) (ph : Option Addr) (H : Hp) (w : Wd), Run K cm xa O (fun _ _ a b => a = b) Wx ρ σ ph H w (jsM fs acc ρ) Q → L2.tJs (fs.map fun f => tX K cm xa Wx f) acc σ H Q
  | [], acc, ph, H, w, h => h.ret (b := acc) rfl
  | f :: fs, acc, ph, H, w, h => ⟨O, ρ, ph, w, (Run.bind (rel := relV K cm O) h).imp fun v H1 ⟨d, ph1, w1, e1, s1, r1, h1⟩ => by
    cases d with
    | str y =>
      by_cases hl : (acc ++ y).length ≤ line
      · simp only [if_pos hl] at h1
        exact ⟨y, str_of r1, le_size hl, js_run fs (acc ++ y) ph1 H1 w1 h1⟩
      · simp only [if_neg hl] at h1; exact h1.no
    | _ => exact h1.no⟩
theorem px_js {v1 v2 : Expr} {rest : List Expr} (h : PJX X c (v1 :: v2 :: rest) fs) : PX X c (.JoinedStr (v1 :: v2 :: rest) pos) (eJs fs) :=
  PE.to (L2.pe_joined h.pj) fun σ H Q ⟨O, ρ, ph, w, h⟩ => js_run fs Str.empty ph H w ((Run.bind (rel := fun _ _ (a b : Str) => a = b) h).imp fun s H1 ⟨s', ph1, w1, e1, s1, r1, h1⟩ => by
    cases r1
    exact h1.ret (b := .str s) (by simp [Rep]))

/-! ### new lists -/
abbrev NF := Env → M (List D)
/-- an expression that makes a new list -/
def tNX (K : PySem.W.Frag) (cm : Nat → Addr) (xa : Option (Addr × Nat × Addr)) (Wx : WX) (f : NF) : TE := fun σ H Q => ∃ O ρ ph w, Run K cm xa O (relL K cm O) Wx ρ σ ph H w (f ρ) (fun vs H1 => ∀ p, H1 p = none → Q (.ref p) (upd H1 p (.lst vs)))
abbrev PNX (X : Cx) (c : Cfg) (e : Expr) (f : NF) : Prop := PE X e (tNX X.K c.cm c.xa c.Wx f)
theorem px_new {f : NF} (h : PNX X c e f) : PX X c e (fun ρ => M.bind (f ρ) fun xs => M.ret (.lst xs)) :=
  PE.to h fun σ H Q ⟨O, ρ, ph, w, h⟩ => ⟨O, ρ, ph, w, (Run.bind (rel := relL X.K c.cm O) h).imp fun vs H1 ⟨ds, ph1, w1, e1, s1, r1, h1⟩ p hp => h1.lst hp r1⟩
theorem pnx_lst (h : PAX X c es fs) (hl : fs.length ≤ 1000 := by decide) : PNX X c (.List es pos) (evs fs) :=
  PE.to (L2.pe_lst h) fun σ H Q ⟨O, ρ, ph, w, h⟩ => ⟨O, ρ, ph, w, by
    have h' : Run X.K c.cm c.xa O (relL X.K c.cm O) c.Wx ρ σ ph H w (M.bind (evs fs ρ) M.ret) (fun vs H1 => ∀ p, H1 p = none → Q (.ref p) (upd H1 p (.lst vs))) := by rw [bind_ret]; exact h
    have hb := h'.bind (rel := relL X.K c.cm O)
    refine ⟨hb.env, hb.hand, ?_⟩
    have hp := hb.post
    cases e : evs fs ρ w with
    | ok ds w1 =>
      rw [e] at hp
      intro vs H1 ph1 x1 s1 k1 r1
      obtain ⟨ds', ph1', w1', x1', s1', r1', h1⟩ := hp vs H1 ph1 x1 s1 k1 r1
      have l := evs_len _ _ _ _ e
      have l2 := r1.length
      exact ⟨by rw [sizeLine_eq]; omega, h1.ret r1'⟩
    | ex => rw [e] at hp; exact hp
    | bad => rw [e] at hp; exact hp⟩

/-! ### what a def promises -/
/-- n arguments; what it does is F -/
def spX (K : PySem.W.Frag) (cm : Nat → Addr) (n : Nat) (F : List D → M D) : L2.Sp := fun vs H Q E => vs.length = n ∧ ∃ O ds ph w, OTr H O ph ∧ HandOk K cm H O ph w ∧ RepL K cm H (OO O ph) ph ds vs ∧
  Post1 K cm O (relV K cm O) (fun cls d _ H' => E cls d H') [] ph H Q (F ds w)
theorem post_ws {K : PySem.W.Frag} {cm : Nat → Addr} {O Wx σ ph H} {Q : VK} {r : R D} (h : Post1 K cm O (relV K cm O) Wx σ ph H Q r) : Post1 K cm O (relV K cm O) (fun cls d _ H' => Wx cls d σ H') [] ph H Q r := by
  cases r <;> exact h
/-- the callee runs; its parameters' defaults fill up; what it raises is wished for at the caller's slots -/
theorem run_fnX {k : Nat} {f : Addr} {fd : FuncData} {ps : List Str} {ds : List Value} {dvs : List V} {n : Nat} {F : List D → M D} {pins : List (Addr × Obj)} {σ : St} {H : Hp} {s : Shared} {Q : VK} {us : List Value} {vs : List V}
    (G : FnOk X.prog X.w X.K X.mg X.base (L2.CX X.prog X.w) k f fd ps (spX X.K cm n F)) (hr : Room k X.A) (hb : Binds X.K fd ps ds) (hd : Vals dvs ds) {Wx : WX} (hx : L2.Takes X Wx)
    (I : Inv X pins σ H s) (r : Vals vs us) (h : spX X.K cm n F (vs ++ dvs) H Q (fun cls d H' => Wx cls d σ H')) : wpAny (model X.prog X.w) X.A (call (.ref f) us) (EP X pins σ Q) X.xe s := by
  have r2 : Vals (vs ++ dvs) (us ++ ds) := r.append hd
  have hl : (us ++ ds).length = ps.length := by rw [← r2.length]; exact G.len _ _ _ _ h
  refine wpAny_call (codeAny_mono (G.run X.A X.stack s H ⟨us, []⟩ (us ++ ds) (vs ++ dvs) Q _ hr I.env0 (hb s us I.kIn hl) r2 h) fun res s' hq => ?_)
  match res, hq with
  | .error e, hq => exact L2.passAt hx σ pins H s e s' I hq
  | .ok (.ret u), hq => exact I.after hq
  | .ok .next, hq => exact False.elim hq
  | .ok .brk, hq => exact False.elim hq
  | .ok .cont, hq => exact False.elim hq
/-- f(e, ..), the other parameters by their defaults (data dds) -/
theorem px_call {x : Str} {p : Pos} {k : Nat} {f : Addr} {fd : FuncData} {ps : List Str} {ds : List Value} {dvs : List V} {dds : List D} {n : Nat} {F : List D → M D}
    (G : FnOk X.prog X.w X.K X.mg X.base (L2.CX X.prog X.w) k f fd ps (spX X.K c.cm n F)) (hr : Room k X.A) (hx : L2.Takes X c.Wx) (hg : L2.Gl X x) (hm : X.mg x = some (.ref f)) (hk : PySem.W.keepIn X.K (.ref f) = true) (hb : Binds X.K fd ps ds) (hd : Vals dvs ds)
    (hdd : ∀ {H N ph}, RepL X.K c.cm H N ph dds dvs) (ha : PAX X c (e :: es) fs) (hn : fs.length + dds.length = n := by rfl) (hdb : (x == ("__debug__" : Str)) = false := by decide) (he : starEach (e :: es) X.env = (false, eval e X.env) :: starEach es X.env := by rfl) (hpl : (backTo pos (starEach es X.env)).any (·.1) = false := by rfl) :
    PX X c (.Call (.Name x p) (e :: es) [] pos) (eCall (fun ds => F (ds ++ dds)) fs) := by
  refine ⟨fun pins s σ H Q I h => ?_⟩
  obtain ⟨O, ρ, ph, w, h⟩ := h
  have h1 := evs_run h
  refine wpAny_Call_Name_kw (L2.ld_glob I hg hm ?_ hdb)
  refine PySem.W.callWith_K (h₀ := X.base) I.ok.mod.kin hk (L2.thn (ha.run pos pins s σ H _ I ⟨O, ρ, ph, w, h1⟩) fun us s1 ⟨vs, H1, I1, r, ds', ph1, w1, l, rl, h2⟩ => ⟨I1.kIn, ?_⟩) he hpl
  refine run_fnX G hr hb hd hx I1 r ⟨?_, O, ds' ++ dds, ph1, w1, h2.env.tr, h2.hand, rl.append hdd, post_ws h2.post⟩
  rw [List.length_append, l, ← (hdd (H := H) (N := fun _ => False) (ph := none)).length]; exact hn
theorem px_call0 {x : Str} {p : Pos} {k : Nat} {f : Addr} {fd : FuncData} {ps : List Str} {ds : List Value} {dvs : List V} {dds : List D} {n : Nat} {F : List D → M D}
    (G : FnOk X.prog X.w X.K X.mg X.base (L2.CX X.prog X.w) k f fd ps (spX X.K c.cm n F)) (hr : Room k X.A) (hx : L2.Takes X c.Wx) (hg : L2.Gl X x) (hm : X.mg x = some (.ref f)) (hk : PySem.W.keepIn X.K (.ref f) = true) (hb : Binds X.K fd ps ds) (hd : Vals dvs ds)
    (hdd : ∀ {H N ph}, RepL X.K c.cm H N ph dds dvs) (hn : dds.length = n := by rfl) (hdb : (x == ("__debug__" : Str)) = false := by decide) :
    PX X c (.Call (.Name x p) [] [] pos) (eCall (fun ds => F (ds ++ dds)) []) := by
  refine ⟨fun pins s σ H Q I h => ?_⟩
  obtain ⟨O, ρ, ph, w, h⟩ := h
  refine wpAny_Call_Name_kw (L2.ld_glob I hg hm ?_ hdb)
  refine PySem.W.callWith_K0 I.kIn hk (run_fnX (us := []) (vs := []) G hr hb hd hx I .nil ⟨?_, O, dds, ph, w, h.env.tr, h.hand, hdd, post_ws h.post⟩)
  rw [List.nil_append, ← (hdd (H := H) (N := fun _ => False) (ph := none)).length]; exact hn
end
end FL

/-! F6: statements. -/
namespace FL
open PySem
open L2 (V Hp HO Cx Inv VK XK TE TT TA TS TI TG PE PT PA PS PSs PI PG Ends WX RelV Vals Rd upd upd_same upd_ne ne_of_none EP TP AP OpR R2 CallR FnOk Room Binds)

/-- the entry of a def: the heap, what its callers own, the hand -/
structure Sq where
  B : Hp
  O0 : NS
  ph0 : Option Addr
/-- what may change: what the callers own, the lists of the slots -/
def OwnS (O0 : NS) (ρ : Env) (σ : St) : NS := fun a => O0 a ∨ ∃ (i : Nat) (xs : List D), ρ[i]? = some (.own xs) ∧ σ[i]? = some (some (.ref a))
section
variable (K : PySem.W.Frag) (cm : Nat → Addr) (xa : Option (Addr × Nat × Addr)) (q : Sq)
structure StS (ρ : Env) (ph : Option Addr) (w : Wd) (σ : St) (H : Hp) : Prop where
  env : EnvE K cm xa (OwnS q.O0 ρ σ) H ph ρ σ
  hand : HandOk K cm H (OwnS q.O0 ρ σ) ph w
  base : Ext q.ph0 q.B H
  phs : PhS q.B q.ph0 ph
  o0 : OTr q.B q.O0 q.ph0
  inj : ∀ (i j : Nat) p xs ys, ρ[i]? = some (.own xs) → ρ[j]? = some (.own ys) → σ[i]? = some (some (.ref p)) → σ[j]? = some (some (.ref p)) → i = j
  fresh : ∀ (i : Nat) p xs, ρ[i]? = some (.own xs) → σ[i]? = some (some (.ref p)) → q.B p = none
/-- what is kept, and the hand stays -/
structure Kp (H : Hp) (N : NS) (ph : Option Addr) (H' : Hp) (N' : NS) (ph' : Option Addr) : Prop where
  k : Keep H N H' N'
  m : PhM ph ph'
/-- what may change at a state -/
abbrev NN (ρ : Env) (σ : St) (ph : Option Addr) : NS := OO (OwnS q.O0 ρ σ) ph
def Post2 (Wx : WX) (D : Ends) (H : Hp) (N : NS) (ph : Option Addr) : SR → Prop
  | .nx ρ' w' => ∀ σ' H' ph', StS K cm xa q ρ' ph' w' σ' H' → Kp H N ph H' (NN q ρ' σ' ph') ph' → D.nx σ' H'
  | .bk ρ' w' => ∀ σ' H' ph', StS K cm xa q ρ' ph' w' σ' H' → Kp H N ph H' (NN q ρ' σ' ph') ph' → D.bk σ' H'
  | .ct ρ' w' => ∀ σ' H' ph', StS K cm xa q ρ' ph' w' σ' H' → Kp H N ph H' (NN q ρ' σ' ph') ph' → D.ct σ' H'
  | .rt d w' => ∀ v H' ph', Ext q.ph0 q.B H' → PhS q.B q.ph0 ph' → HandOk K cm H' q.O0 ph' w' → Rep K cm H' (OO q.O0 ph') ph' d v → D.rt v H'
  | .ex c ns xs ρ' w' => ∀ σ' H' ph' dd vs, StS K cm xa q ρ' ph' w' σ' H' → Kp H N ph H' (NN q ρ' σ' ph') ph' → H' dd = some (.xd (ns.zip vs).reverse) → ns.length = vs.length → RepL K cm H' (NN q ρ' σ' ph') ph' xs vs → Wx (.ref (cm c)) (some dd) σ' H'
  | .bad => False
def tS (Wx : WX) (s : SF) : TS := fun D σ H => ∃ ρ ph w, StS K cm xa q ρ ph w σ H ∧ Post2 K cm xa q Wx D H (NN q ρ σ ph) ph (s ρ w)
end
abbrev PSX (X : Cx) (c : Cfg) (q : Sq) (st : Stmt) (s : SF) : Prop := PS X st (tS X.K c.cm c.xa q c.Wx s)
abbrev PSSX (X : Cx) (c : Cfg) (q : Sq) (st : List Stmt) (s : SF) : Prop := PSs X st (tS X.K c.cm c.xa q c.Wx s)
section
variable {K : PySem.W.Frag} {cm : Nat → Addr} {xa : Option (Addr × Nat × Addr)} {q : Sq} {ρ ρ' : Env} {σ : St} {H H' H1 H2 : Hp} {N N' N1 : NS} {ph ph' : Option Addr} {w w' : Wd} {Wx : WX} {D : Ends}
theorem Kp.refl : Kp H N ph H N ph := ⟨.refl, fun _ e => e⟩
theorem Kp.trans {ph1 ph2 : Option Addr} {N2 : NS} (x : Kp H N ph H1 N1 ph1) (y : Kp H1 N1 ph1 H2 N2 ph2) : Kp H N ph H2 N2 ph2 := ⟨x.k.trans y.k, fun p e => y.m p (x.m p e)⟩
theorem Keep.kp (k : Keep H N H1 N1) : Kp H N ph H1 N1 ph := ⟨k, fun _ e => e⟩
theorem Post2.keep {ph1 : Option Addr} {r : SR} (k : Kp H N ph H1 N1 ph1) (h : Post2 K cm xa q Wx D H N ph r) : Post2 K cm xa q Wx D H1 N1 ph1 r := by
  cases r with
  | nx ρ' w' => exact fun σ' H' ph' s k2 => h σ' H' ph' s (k.trans k2)
  | bk ρ' w' => exact fun σ' H' ph' s k2 => h σ' H' ph' s (k.trans k2)
  | ct ρ' w' => exact fun σ' H' ph' s k2 => h σ' H' ph' s (k.trans k2)
  | rt d w' => exact h
  | ex c ns xs ρ' w' => exact fun σ' H' ph' dd vs s k2 => h σ' H' ph' dd vs s (k.trans k2)
  | bad => exact h
theorem StS.ext (x : Ext ph H H') (s : PhS H ph ph') (hk : HandOk K cm H' (OwnS q.O0 ρ σ) ph' w') (h : StS K cm xa q ρ ph w σ H) : StS K cm xa q ρ ph' w' σ H' :=
  ⟨h.env.ext x s, hk, h.base.trans h.phs x, PhS.trans h.base h.phs s, h.o0, h.inj, h.fresh⟩
/-- an expression's run within a statement -/
theorem onE_run {α β : Type} {rel : Hp → Option Addr → α → β → Prop} {m : M α} {k : α → Wd → SR} (h : StS K cm xa q ρ ph w σ H) (hp : Post2 K cm xa q Wx D H (NN q ρ σ ph) ph (onE m ρ w k)) :
    Run K cm xa (OwnS q.O0 ρ σ) rel Wx ρ σ ph H w m (fun b H1 => ∃ a ph1 w1, rel H1 ph1 a b ∧ StS K cm xa q ρ ph1 w1 σ H1 ∧ Kp H (NN q ρ σ ph) ph H1 (NN q ρ σ ph1) ph1 ∧ Post2 K cm xa q Wx D H1 (NN q ρ σ ph1) ph1 (k a w1)) := by
  refine ⟨h.env, h.hand, ?_⟩
  unfold onE at hp
  cases e : m w with
  | ok a w1 =>
    rw [e] at hp
    intro b H1 ph1 x s hk r
    have kk : Kp H (NN q ρ σ ph) ph H1 (NN q ρ σ ph1) ph1 := ⟨Ext.keep x s, s.m⟩
    exact ⟨a, ph1, w1, r, h.ext x s hk, kk, hp.keep kk⟩
  | ex c ns xs w1 =>
    rw [e] at hp
    intro dd H1 ph1 vs x s hk hd l r
    exact hp σ H1 ph1 dd vs (h.ext x s hk) ⟨Ext.keep x s, s.m⟩ hd l r
  | bad => rw [e] at hp; exact hp

/-! setting slots -/
theorem get_set_or {α : Type} {l : List α} {i j : Nat} {x y : α} (h : (l.set i x)[j]? = some y) : (i = j ∧ y = x) ∨ (i ≠ j ∧ l[j]? = some y) := by
  by_cases e : i = j
  · subst e
    by_cases hi : i < l.length
    · rw [List.getElem?_set_self hi] at h; cases h; exact .inl ⟨rfl, rfl⟩
    · rw [List.getElem?_eq_none (by simpa using hi)] at h; cases h
  · rw [List.getElem?_set_ne e] at h; exact .inr ⟨e, h⟩
theorem own_set {O0 : NS} {i : Nat} {s : Slot} {x : Option V} (hs : ∀ xs, s ≠ .own xs) {a : Addr} (h : OwnS O0 (ρ.set i s) (σ.set i x) a) : OwnS O0 ρ σ a := by
  rcases h with h | ⟨j, xs, h1, h2⟩
  · exact .inl h
  · rcases get_set_or h1 with ⟨e, e2⟩ | ⟨e, e2⟩
    · exact absurd e2.symm (hs xs)
    · rw [List.getElem?_set_ne e] at h2
      exact .inr ⟨j, xs, e2, h2⟩
theorem OO.mono {O O' : NS} (h : ∀ a, O a → O' a) : ∀ a, OO O ph a → OO O' ph a := fun a x => x.elim (fun y => .inl (h a y)) .inr
theorem Keep.less (h : ∀ a, N' a → N a) : Keep H N H N' := ⟨fun _ _ _ e => e, fun b _ _ n => h b n⟩
theorem OTr.less {O O' : NS} (h : ∀ a, O' a → O a) (t : OTr H O ph) : OTr H O' ph := fun a o => t a (h a o)
theorem HandOk.less {O O' : NS} (h : ∀ a, O' a → O a) (t : HandOk K cm H O ph w) : HandOk K cm H O' ph w := t.keep (Keep.less (OO.mono h)) fun _ _ _ e => e
/-- a slot gets a value, or is emptied -/
theorem StS.setv {i : Nat} {s : Slot} {x : Option V} (hs : ∀ xs, s ≠ .own xs) (r : SlotR K cm xa (OwnS q.O0 ρ σ) H ph s x) (h : StS K cm xa q ρ ph w σ H) : StS K cm xa q (ρ.set i s) ph w (σ.set i x) H := by
  have lo : ∀ a, OwnS q.O0 (ρ.set i s) (σ.set i x) a → OwnS q.O0 ρ σ a := fun a => own_set hs
  have kk : Keep H (NN q ρ σ ph) H (NN q (ρ.set i s) (σ.set i x) ph) := Keep.less (OO.mono lo)
  refine ⟨⟨by simp [h.env.len], fun j sl v e1 e2 => ?_, h.env.tr.less lo⟩, h.hand.less lo, h.base, h.phs, h.o0, ?_, ?_⟩
  · rcases get_set_or e1 with ⟨e, e3⟩ | ⟨e, e3⟩
    · subst e
      subst e3
      have hj : i < σ.length := by
        have := (List.getElem?_eq_some_iff.mp e2).1
        simpa using this
      rw [List.getElem?_set_self hj] at e2
      cases e2
      exact r.keep kk (fun _ e => e) fun ds p e => absurd e (hs ds)
    · rw [List.getElem?_set_ne e] at e2
      refine (h.env.at_ j sl v e3 e2).keep kk (fun _ e => e) fun ds p hsl hv _ => ⟨.inr ⟨j, ds, ?_, ?_⟩, fun _ e => e⟩
      · rw [List.getElem?_set_ne e, e3, hsl]
      · rw [List.getElem?_set_ne e, e2, hv]
  · intro j k p xs ys h1 h2 h3 h4
    rcases get_set_or h1 with ⟨_, e3⟩ | ⟨n1, e3⟩
    · exact absurd e3.symm (hs xs)
    · rcases get_set_or h2 with ⟨_, e4⟩ | ⟨n2, e4⟩
      · exact absurd e4.symm (hs ys)
      · rw [List.getElem?_set_ne n1] at h3
        rw [List.getElem?_set_ne n2] at h4
        exact h.inj j k p xs ys e3 e4 h3 h4
  · intro j p xs h1 h3
    rcases get_set_or h1 with ⟨_, e3⟩ | ⟨n1, e3⟩
    · exact absurd e3.symm (hs xs)
    · rw [List.getElem?_set_ne n1] at h3
      exact h.fresh j p xs e3 h3
theorem StS.setd {i : Nat} {d : FL.D} {v : V} (r : Rep K cm H (NN q ρ σ ph) ph d v) (h : StS K cm xa q ρ ph w σ H) : StS K cm xa q (ρ.set i (.val d)) ph w (σ.set i (some v)) H := h.setv (fun _ e => by cases e) ⟨v, rfl, r⟩
theorem keep_set {i : Nat} {s : Slot} {x : Option V} (hs : ∀ xs, s ≠ .own xs) : Keep H (NN q ρ σ ph) H (NN q (ρ.set i s) (σ.set i x) ph) := Keep.less (OO.mono fun _ => own_set hs)
/-- a slot gets a new list -/
theorem StS.seto {i : Nat} {ds : List FL.D} {vs : List V} {p : Addr} (hi : i < ρ.length) (hp : H p = none) (r : RepL K cm H (NN q ρ σ ph) ph ds vs) (h : StS K cm xa q ρ ph w σ H) :
    StS K cm xa q (ρ.set i (.own ds)) ph w (σ.set i (some (.ref p))) (upd H p (.lst vs)) ∧ Keep H (NN q ρ σ ph) (upd H p (.lst vs)) (NN q (ρ.set i (.own ds)) (σ.set i (some (.ref p))) ph) := by
  have hiσ : i < σ.length := by rw [h.env.len]; exact hi
  have lo : ∀ a, OwnS q.O0 (ρ.set i (.own ds)) (σ.set i (some (.ref p))) a → a = p ∨ OwnS q.O0 ρ σ a := fun a x => by
    rcases x with x | ⟨j, xs, h1, h2⟩
    · exact .inr (.inl x)
    · rcases get_set_or h1 with ⟨e, _⟩ | ⟨e, e2⟩
      · subst e
        rw [List.getElem?_set_self hiσ] at h2
        cases h2; exact .inl rfl
      · rw [List.getElem?_set_ne e] at h2
        exact .inr (.inr ⟨j, xs, e2, h2⟩)
  have np : ∀ a, OwnS q.O0 ρ σ a → a ≠ p := fun a o e => by
    obtain ⟨_, vs, z⟩ := h.env.tr a o
    rw [e, hp] at z; cases z
  have nph : ph ≠ some p := fun e => by
    obtain ⟨vs, z⟩ := h.hand.tr e
    rw [hp] at z; cases z
  have kk : Keep H (NN q ρ σ ph) (upd H p (.lst vs)) (NN q (ρ.set i (.own ds)) (σ.set i (some (.ref p))) ph) := by
    refine ⟨fun b o _ e => by rw [upd_ne (ne_of_none e hp)]; exact e, fun b o e x => ?_⟩
    rcases x with x | x
    · rcases lo b x with z | z
      · rw [z, hp] at e; cases e
      · exact .inl z
    · exact .inr x
  have Bp : q.B p = none := by
    cases e : q.B p with
    | none => rfl
    | some o =>
      by_cases z : q.ph0 = some p
      · rcases h.phs with y | ⟨y, _⟩
        · exact absurd (y.trans z) nph
        · rw [y] at z; cases z
      · rw [h.base p o z e] at hp; cases hp
  refine ⟨⟨⟨by simp [h.env.len], fun j sl v e1 e2 => ?_, fun a o => ?_⟩, ?_, fun b o n e => ?_, h.phs, h.o0, ?_, ?_⟩, kk⟩
  · rcases get_set_or e1 with ⟨e, e3⟩ | ⟨e, e3⟩
    · subst e
      subst e3
      rw [List.getElem?_set_self hiσ] at e2
      cases e2
      exact ⟨p, vs, rfl, .inr ⟨i, ds, List.getElem?_set_self hi, List.getElem?_set_self hiσ⟩, upd_same, r.keep kk (fun _ e => e) ds vs⟩
    · rw [List.getElem?_set_ne e] at e2
      refine (h.env.at_ j sl v e3 e2).keep kk (fun _ e => e) fun ds' p' hsl hv o => ⟨.inr ⟨j, ds', ?_, ?_⟩, fun u z => by rw [upd_ne (np p' o)]; exact z⟩
      · rw [List.getElem?_set_ne e, e3, hsl]
      · rw [List.getElem?_set_ne e, e2, hv]
  · rcases lo a o with z | z
    · subst z; exact ⟨nph, vs, upd_same⟩
    · obtain ⟨y, ws, e⟩ := h.env.tr a z
      exact ⟨y, ws, by rw [upd_ne (np a z)]; exact e⟩
  · exact h.hand.keep kk fun p' e u z => by rw [upd_ne (ne_of_none z hp)]; exact z
  · rw [upd_ne (ne_of_none (h.base b o n e) hp)]; exact h.base b o n e
  · intro j k p' xs ys h1 h2 h3 h4
    rcases get_set_or h1 with ⟨a1, _⟩ | ⟨n1, e3⟩
    · rcases get_set_or h2 with ⟨a2, _⟩ | ⟨n2, e4⟩
      · exact a1.symm.trans a2
      · subst a1
        rw [List.getElem?_set_self hiσ] at h3
        rw [List.getElem?_set_ne n2] at h4
        cases h3
        exact absurd rfl (np p (.inr ⟨k, ys, e4, h4⟩))
    · rcases get_set_or h2 with ⟨a2, _⟩ | ⟨n2, e4⟩
      · subst a2
        rw [List.getElem?_set_self hiσ] at h4
        rw [List.getElem?_set_ne n1] at h3
        cases h4
        exact absurd rfl (np p (.inr ⟨j, xs, e3, h3⟩))
      · rw [List.getElem?_set_ne n1] at h3
        rw [List.getElem?_set_ne n2] at h4
        exact h.inj j k p' xs ys e3 e4 h3 h4
  · intro j p' xs h1 h3
    rcases get_set_or h1 with ⟨a1, _⟩ | ⟨n1, e3⟩
    · subst a1
      rw [List.getElem?_set_self hiσ] at h3
      cases h3; exact Bp
    · rw [List.getElem?_set_ne n1] at h3
      exact h.fresh j p' xs e3 h3
/-- the list of a slot is changed -/
theorem StS.chg {i : Nat} {ds es : List FL.D} {ws : List V} (e0 : ρ[i]? = some (.own ds)) {p : Addr} (e1 : σ[i]? = some (some (.ref p))) (r : RepL K cm H (NN q ρ σ ph) ph es ws) (h : StS K cm xa q ρ ph w σ H) :
    StS K cm xa q (ρ.set i (.own es)) ph w σ (upd H p (.lst ws)) ∧ Keep H (NN q ρ σ ph) (upd H p (.lst ws)) (NN q (ρ.set i (.own es)) σ ph) := by
  have hi : i < ρ.length := (List.getElem?_eq_some_iff.mp e0).1
  have op : OwnS q.O0 ρ σ p := .inr ⟨i, ds, e0, e1⟩
  have so : ∀ a, OwnS q.O0 (ρ.set i (.own es)) σ a → OwnS q.O0 ρ σ a := fun a x => by
    rcases x with x | ⟨j, xs, h1, h2⟩
    · exact .inl x
    · rcases get_set_or h1 with ⟨e, _⟩ | ⟨e, e2⟩
      · subst e; exact .inr ⟨i, ds, e0, h2⟩
      · exact .inr ⟨j, xs, e2, h2⟩
  have os : ∀ a, OwnS q.O0 ρ σ a → OwnS q.O0 (ρ.set i (.own es)) σ a := fun a x => by
    rcases x with x | ⟨j, xs, h1, h2⟩
    · exact .inl x
    · by_cases e : i = j
      · subst e; exact .inr ⟨i, es, List.getElem?_set_self hi, h2⟩
      · exact .inr ⟨j, xs, by rw [List.getElem?_set_ne e]; exact h1, h2⟩
  have nph : ph ≠ some p := (h.env.tr p op).1
  have Bp : q.B p = none := h.fresh i p ds e0 e1
  have kk : Keep H (NN q ρ σ ph) (upd H p (.lst ws)) (NN q (ρ.set i (.own es)) σ ph) :=
    ⟨fun b o n e => by rw [upd_ne (fun (z : b = p) => n (.inl (by rw [z]; exact op)))]; exact e, fun b o e x => x.elim (fun y => .inl (so b y)) .inr⟩
  refine ⟨⟨⟨by simp [h.env.len], fun j sl v e2 e3 => ?_, fun a o => ?_⟩, ?_, fun b o n e => ?_, h.phs, h.o0, ?_, ?_⟩, kk⟩
  · rcases get_set_or e2 with ⟨e, e4⟩ | ⟨e, e4⟩
    · subst e
      subst e4
      rw [e1] at e3; cases e3
      exact ⟨p, ws, rfl, os p op, upd_same, r.keep kk (fun _ e => e) es ws⟩
    · refine (h.env.at_ j sl v e4 e3).keep kk (fun _ e => e) fun ds' p' hsl hv o => ⟨os p' o, fun u z => ?_⟩
      rw [upd_ne (fun z' => ?_)]
      · exact z
      · subst z'
        exact e (h.inj i j p' ds ds' e0 (by rw [e4, hsl]) e1 (by rw [e3, hv]))
  · obtain ⟨y, us, e⟩ := h.env.tr a (so a o)
    refine ⟨y, ?_⟩
    by_cases z : a = p
    · subst z; exact ⟨ws, upd_same⟩
    · exact ⟨us, by rw [upd_ne z]; exact e⟩
  · exact h.hand.keep kk fun p' e u z => by rw [upd_ne (fun z' => nph (by rw [← z']; exact e))]; exact z
  · rw [upd_ne (fun z => by rw [z, Bp] at e; cases e)]; exact h.base b o n e
  · intro j k p' xs ys h1 h2 h3 h4
    have gj : ∃ xs', ρ[j]? = some (.own xs') := by
      rcases get_set_or h1 with ⟨a, _⟩ | ⟨_, a⟩
      · subst a; exact ⟨ds, e0⟩
      · exact ⟨xs, a⟩
    have gk : ∃ xs', ρ[k]? = some (.own xs') := by
      rcases get_set_or h2 with ⟨a, _⟩ | ⟨_, a⟩
      · subst a; exact ⟨ds, e0⟩
      · exact ⟨ys, a⟩
    obtain ⟨x1, g1⟩ := gj
    obtain ⟨x2, g2⟩ := gk
    exact h.inj j k p' x1 x2 g1 g2 h3 h4
  · intro j p' xs h1 h3
    rcases get_set_or h1 with ⟨a, _⟩ | ⟨_, a⟩
    · subst a; exact h.fresh i p' ds e0 h3
    · exact h.fresh j p' xs a h3
end

/-! ### the rules -/
section
variable {X : Cx} {c : Cfg} {q : Sq} {pos : Pos} {e : Expr} {fe : EF} {st : Stmt} {sts : List Stmt} {s t : SF}
theorem pssx_nil : PSSX X c q [] sNext := PSs.to L2.pss_nil fun D σ H ⟨ρ, ph, w, h, hp⟩ => hp σ H ph h .refl
theorem seq_to : ∀ D σ H, tS X.K c.cm c.xa q c.Wx (sSeq s t) D σ H → L2.tSeq (tS X.K c.cm c.xa q c.Wx s) (tS X.K c.cm c.xa q c.Wx t) D σ H := fun D σ H ⟨ρ, ph, w, h, hp⟩ => by
  refine ⟨ρ, ph, w, h, ?_⟩
  unfold sSeq at hp
  cases er : s ρ w with
  | nx ρ' w' =>
    rw [er] at hp
    exact fun σ' H' ph' h2 k => ⟨ρ', ph', w', h2, hp.keep k⟩
  | rt d w' => rw [er] at hp; exact hp
  | bk ρ' w' => rw [er] at hp; exact hp
  | ct ρ' w' => rw [er] at hp; exact hp
  | ex c ns xs ρ' w' => rw [er] at hp; exact hp
  | bad => rw [er] at hp; exact hp
theorem pssx_cons (h1 : PSX X c q st s) (h2 : PSSX X c q sts t) : PSSX X c q (st :: sts) (sSeq s t) := PSs.to (L2.pss_cons h1 h2) seq_to
theorem pssx_one (h1 : PSX X c q st s) : PSSX X c q [st] s := L2.pss_one h1
/-- from here on the list of slot i is as others -/
theorem pssx_frz (i : Nat) (h : PSSX X c q sts t) : PSSX X c q sts (sSeq (sFrz i) t) := PSs.to h fun D σ H ⟨ρ, ph, w, h, hp⟩ => by
  unfold sSeq sFrz at hp
  cases e : ρ[i]? with
  | none => rw [e] at hp; exact (show False from hp).elim
  | some sl =>
    rw [e] at hp
    cases sl with
    | own xs =>
      obtain ⟨p, vs, e1, o, hv, r⟩ := h.env.ownd e
      have hi : i < ρ.length := (List.getElem?_eq_some_iff.mp e).1
      have hiσ : i < σ.length := by rw [h.env.len]; exact hi
      have es : σ.set i (some (.ref p)) = σ := by
        apply List.ext_getElem?
        intro j
        by_cases hj : i = j
        · subst hj; rw [List.getElem?_set_self hiσ, e1]
        · rw [List.getElem?_set_ne hj]
      have kk : Keep H (NN q ρ σ ph) H (NN q (ρ.set i (.val (.lst xs))) (σ.set i (some (.ref p))) ph) := keep_set fun _ z => by cases z
      -- p is not of the new state's own
      have np : ¬ NN q (ρ.set i (.val (.lst xs))) (σ.set i (some (.ref p))) ph p := fun z => by
        rcases z with (z | ⟨j, ys, h1, h2⟩) | z
        · obtain ⟨_, us, z⟩ := h.o0 p z
          rw [h.fresh i p xs e e1] at z; cases z
        · rcases get_set_or h1 with ⟨_, a⟩ | ⟨n, a⟩
          · cases a
          · rw [es] at h2
            exact n (h.inj i j p xs ys e a e1 h2)
        · exact (h.env.tr p o).1 z
      have h2 : StS X.K c.cm c.xa q (ρ.set i .none) ph w (σ.set i (some (.ref p))) H := h.setv (s := .none) (fun _ z => by cases z) trivial
      have lo : ∀ a, NN q (ρ.set i .none) (σ.set i (some (.ref p))) ph a → NN q (ρ.set i (.val (.lst xs))) (σ.set i (some (.ref p))) ph a := fun a z => by
        rcases z with (z | ⟨j, ys, h1, h2⟩) | z
        · exact .inl (.inl z)
        · rcases get_set_or h1 with ⟨_, a⟩ | ⟨n, a⟩
          · cases a
          · exact .inl (.inr ⟨j, ys, by rw [List.getElem?_set_ne n]; exact a, h2⟩)
        · exact .inr z
      have lo2 : ∀ a, NN q (ρ.set i (.val (.lst xs))) (σ.set i (some (.ref p))) ph a → NN q (ρ.set i .none) (σ.set i (some (.ref p))) ph a := fun a z => by
        rcases z with (z | ⟨j, ys, h1, h2⟩) | z
        · exact .inl (.inl z)
        · rcases get_set_or h1 with ⟨_, a⟩ | ⟨n, a⟩
          · cases a
          · exact .inl (.inr ⟨j, ys, by rw [List.getElem?_set_ne n]; exact a, h2⟩)
        · exact .inr z
      have h3 := h2.setd (i := i) (d := .lst xs) (v := .ref p) (by
        simp only [Rep]
        exact ⟨p, vs, rfl, ⟨fun z => np (lo p z), hv⟩, r.keep (kk.trans (Keep.less lo)) (fun _ e => e) xs vs⟩)
      rw [List.set_set, List.set_set, es] at h3
      rw [es] at kk
      exact ⟨_, ph, w, h3, hp.keep kk.kp⟩
    | _ => exact (show False from hp).elim
theorem psx_expr (he : PX X c e fe) (hs : swapsWith e none pos.line X.env = pure false := by rfl) : PSX X c q (.Expr e pos) (sExpr fe) :=
  PS.to (L2.ps_expr he hs) fun D σ H ⟨ρ, ph, w, h, hp⟩ => ⟨_, ρ, ph, w, (onE_run h hp).imp fun v H1 ⟨d, ph1, w1, r, h1, k, hp1⟩ => hp1 σ H1 ph1 h1 .refl⟩
theorem psx_set {i : Nat} {x : Str} {pos' : Pos} (hN : X.N.Nodup) (hi : X.N[i]? = some x) (hx : L2.Loc X.env.scope x) (he : PX X c e fe) (hs : swapsWith e (some (.Name x pos')) pos.line X.env = pure false := by rfl) (hf : X.fn x = true ∨ X.env.scope.names.lookup x = some .local := by first | exact .inl rfl | exact .inr rfl | assumption) :
    PSX X c q (.Assign [.Name x pos'] e pos) (sSet i fe) :=
  PS.to (L2.ps_set hN hi hx he hs hf) fun D σ H ⟨ρ, ph, w, h, hp⟩ => ⟨_, ρ, ph, w, (onE_run h hp).imp fun v H1 ⟨d, ph1, w1, r, h1, k, hp1⟩ => hp1 _ H1 ph1 (h1.setd r) (keep_set fun _ z => by cases z).kp⟩
theorem psx_own {i : Nat} {x : Str} {pos' : Pos} {f : NF} (hN : X.N.Nodup) (hi : X.N[i]? = some x) (hx : L2.Loc X.env.scope x) (he : PNX X c e f) (hs : swapsWith e (some (.Name x pos')) pos.line X.env = pure false := by rfl) (hf : X.fn x = true ∨ X.env.scope.names.lookup x = some .local := by first | exact .inl rfl | exact .inr rfl | assumption) :
    PSX X c q (.Assign [.Name x pos'] e pos) (sOwn i f) :=
  PS.to (L2.ps_set hN hi hx he hs hf) fun D σ H ⟨ρ, ph, w, h, hp⟩ => ⟨_, ρ, ph, w, (onE_run h hp).imp fun vs H1 ⟨ds, ph1, w1, r, h1, k, hp1⟩ p hpn => by
    by_cases hl : i < ρ.length
    · obtain ⟨h2, k2⟩ := h1.seto hl hpn r
      exact hp1 _ _ ph1 h2 k2.kp
    · have e1 : ρ.set i (.own ds) = ρ := List.set_eq_of_length_le (by omega)
      have e2 : σ.set i (some (.ref p)) = σ := List.set_eq_of_length_le (by rw [h.env.len]; omega)
      show D.nx (σ.set i (some (.ref p))) _
      have hp1' : Post2 X.K c.cm c.xa q c.Wx D H1 (NN q ρ σ ph1) ph1 (.nx ρ w1) := by
        have z := hp1
        show Post2 X.K c.cm c.xa q c.Wx D H1 (NN q ρ σ ph1) ph1 (.nx ρ w1)
        have e3 : SR.nx (ρ.set i (.own ds)) w1 = SR.nx ρ w1 := by rw [e1]
        rw [← e3]; exact z
      rw [e2]
      exact hp1' σ _ ph1 (h1.ext (ext_new hpn) .refl (h1.hand.new hpn)) (Ext.keep (ext_new hpn) .refl).kp⟩
theorem psx_ret (he : PX X c e fe) : PSX X c q (.Return (some e) pos) (sRet fe) :=
  PS.to (L2.ps_ret he) fun D σ H ⟨ρ, ph, w, h, hp⟩ => ⟨_, ρ, ph, w, (onE_run h hp).imp fun v H1 ⟨d, ph1, w1, r, h1, k, hp1⟩ =>
    hp1 v H1 ph1 h1.base h1.phs (h1.hand.less fun _ z => .inl z) (r.keep (Keep.less (OO.mono fun _ z => .inl z)) (fun _ e => e) d v)⟩
theorem psx_retN : PSX X c q (.Return none pos) sRetN := PS.to L2.ps_retN fun D σ H ⟨ρ, ph, w, h, hp⟩ => hp .non H ph h.base h.phs (h.hand.less fun _ z => .inl z) (by simp [Rep])
/-- return of a list of the def's own -/
theorem psx_retOwn (i : Nat) {x : Str} {p0 : Pos} (hN : X.N[i]? = some x := by rfl) (hv : L2.Vis X.env.scope x := by first | exact Or.inl rfl | exact Or.inr (Or.inl rfl) | exact Or.inr (Or.inr rfl)) (hd : (x == ("__debug__" : Str)) = false := by decide)
    (hcd : (x == ("__classdict__" : Str)) = false := by decide) : PSX X c q (.Return (some (.Name x p0)) pos) (sRetOwn i) :=
  PS.to (L2.ps_ret (L2.pe_var hN hv hd hcd)) fun D σ H ⟨ρ, ph, w, h, hp⟩ => by
    unfold sRetOwn at hp
    cases e : ρ[i]? with
    | none => rw [e] at hp; exact (show False from hp).elim
    | some sl =>
      rw [e] at hp
      cases sl with
      | own xs =>
        obtain ⟨p, vs, e1, o, hv, r⟩ := h.env.ownd e
        refine ⟨.ref p, e1, hp (.ref p) H ph h.base h.phs (h.hand.less fun _ z => .inl z) ?_⟩
        simp only [Rep]
        refine ⟨p, vs, rfl, ⟨fun z => ?_, hv⟩, r.keep (Keep.less (OO.mono fun _ z => .inl z)) (fun _ e => e) xs vs⟩
        rcases z with z | z
        · obtain ⟨_, us, z⟩ := h.o0 p z
          rw [h.fresh i p xs e e1] at z; cases z
        · exact (h.env.tr p o).1 z
      | _ => exact (show False from hp).elim
theorem psx_if {ta : TF} {b1 b2 : List Stmt} {e1 : Expr} (ht : PTX X c e1 ta) (ha : PSSX X c q b1 s) (hb : PSSX X c q b2 t) : PSX X c q (.If e1 b1 b2 pos) (sIf ta s t) :=
  PS.to (L2.ps_if ht ha hb) fun D σ H ⟨ρ, ph, w, h, hp⟩ => ⟨_, ρ, ph, w, (onE_run (rel := relB) h hp).imp fun b H1 ⟨d, ph1, w1, r, h1, k, hp1⟩ => by
    cases r
    cases b with
    | true => exact ⟨ρ, ph1, w1, h1, hp1⟩
    | false => exact ⟨ρ, ph1, w1, h1, hp1⟩⟩
theorem psx_brk : PSX X c q (.Break pos) sBrk := PS.to L2.ps_break fun D σ H ⟨ρ, ph, w, h, hp⟩ => hp σ H ph h .refl
theorem psx_cnt : PSX X c q (.Continue pos) sCnt := PS.to L2.ps_continue fun D σ H ⟨ρ, ph, w, h, hp⟩ => hp σ H ph h .refl
theorem psx_pass : PSX X c q (.Pass pos) sNext := PS.to L2.ps_pass fun D σ H ⟨ρ, ph, w, h, hp⟩ => hp σ H ph h .refl
/-- x.append(e), x a list of the def's own -/
theorem psx_app (i : Nat) {x : Str} {p0 p1 p2 : Pos} (he : PX X c e fe) (hN : X.N[i]? = some x := by rfl) (hv : L2.Vis X.env.scope x := by first | exact Or.inl rfl | exact Or.inr (Or.inl rfl) | exact Or.inr (Or.inr rfl)) (hd : (x == ("__debug__" : Str)) = false := by decide)
    (hcd : (x == ("__classdict__" : Str)) = false := by decide) (hst : starEach (e :: []) X.env = (false, eval e X.env) :: starEach [] X.env := by rfl) (hs : swapsWith (.Call (.Attribute (.Name x p0) "append" p1) [e] [] p2) none pos.line X.env = pure false := by rfl)
    (hpl : (backTo p2 (starEach [] X.env)).any (·.1) = false := by rfl)
    (hc : PE X (.Call (.Attribute (.Name x p0) "append" p1) [e] [] p2) (L2.tBM X.K "list" L2.rAppend (L2.tVar i) (L2.tCons (tX X.K c.cm c.xa c.Wx fe) L2.tNil))) : PSX X c q (.Expr (.Call (.Attribute (.Name x p0) "append" p1) [e] [] p2) pos) (sApp i fe) :=
  PS.to (L2.ps_expr hc hs) fun D σ H ⟨ρ, ph, w, h, hp⟩ => by
    unfold sApp at hp
    cases e0 : ρ[i]? with
    | none => rw [e0] at hp; exact (show False from hp).elim
    | some sl =>
      rw [e0] at hp
      cases sl with
      | own xs =>
        obtain ⟨p, vs, e1, o, hv, r⟩ := h.env.ownd e0
        refine ⟨.ref p, e1, .inl ⟨rfl, vs, .inl (.inl hv)⟩, _, ρ, ph, w, (onE_run h hp).imp fun v H1 ⟨d, ph1, w1, rd, h1, k, hp1⟩ => ?_⟩
        obtain ⟨p', vs', e1', o', hv', r'⟩ := h1.env.ownd e0
        rw [e1] at e1'; cases e1'
        by_cases hl : xs.length < line
        · simp only [if_pos hl] at hp1
          obtain ⟨h2, k2⟩ := h1.chg e0 e1 (r'.append (RepL.one rd))
          exact ⟨p, vs', v, rfl, rfl, hv', by rw [sizeLine_eq, ← r'.length]; exact hl, hp1 σ _ ph1 h2 k2.kp⟩
        · simp only [if_neg hl] at hp1
          exact (show False from hp1).elim
      | _ => exact (show False from hp).elim
end
end FL

/-! F7: targets, iterators, loops, comprehensions. -/
namespace FL
open PySem
open L2 (V Hp HO Cx Inv VK XK TE TT TA TS TI TG PE PT PA PS PSs PI PG Ends WX RelV Vals Rd upd upd_same upd_ne ne_of_none EP TP AP OpR R2 CallR FnOk Room Binds It Walk)

/-! ### targets -/
abbrev Put := Nat × D × V
def putE (ts : List Put) (ρ : Env) : Env := ts.foldl (fun ρ t => ρ.set t.1 (.val t.2.1)) ρ
def putS (ts : List Put) (σ : St) : St := ts.foldl (fun σ t => σ.set t.1 (some t.2.2)) σ
/-- the target takes what g says; its slots are is -/
def TGX (K : PySem.W.Frag) (cm : Nat → Addr) (g : GF) (tg : TG) (is : List Nat) : Prop := ∀ {H N ph d v ρ ρ'}, Rep K cm H N ph d v → g d ρ = some ρ' →
  ∃ ts : List Put, ρ' = putE ts ρ ∧ (∀ t ∈ ts, t.1 ∈ is ∧ Rep K cm H N ph t.2.1 t.2.2) ∧ ∀ (σ : St) (Q : St → Hp → Prop), Q (putS ts σ) H → tg v σ H Q
section
variable {K : PySem.W.Frag} {cm : Nat → Addr} {xa : Option (Addr × Nat × Addr)} {O O' : NS} {X : Cx} {c : Cfg} {q : Sq} {H H' H1 : Hp} {N : NS} {ph ph' : Option Addr} {ρ ρ' : Env} {σ : St} {w w' : Wd} {pos : Pos}
theorem tgx_n (i : Nat) : TGX K cm (gN i) (L2.gName i) [i] := fun {H N ph d v ρ ρ'} r e => by
  cases e
  exact ⟨[(i, d, v)], rfl, fun t ht => by simp at ht; subst ht; exact ⟨by simp, r⟩, fun σ Q h => h⟩
def gNames : List Nat → L2.TGs
  | [] => L2.gNil
  | i :: is => L2.gCons (L2.gName i) (gNames is)
theorem gAll_put : ∀ (is : List Nat) (ds : List D) (vs : List V) (ρ ρ' : Env), RepL K cm H N ph ds vs → gAll is ds ρ = some ρ' →
    vs.length = is.length ∧ ∃ ts : List Put, ρ' = putE ts ρ ∧ (∀ t ∈ ts, t.1 ∈ is ∧ Rep K cm H N ph t.2.1 t.2.2) ∧ ∀ (σ : St) (Q : St → Hp → Prop), Q (putS ts σ) H → gNames is vs σ H Q
  | [], [], vs, ρ, ρ', r, e => by
    cases e; cases r.unnil
    exact ⟨rfl, [], rfl, fun t ht => by simp at ht, fun σ Q h => ⟨rfl, h⟩⟩
  | i :: is, d :: ds, vs, ρ, ρ', r, e => by
    obtain ⟨v, vs', rfl, r1, r2⟩ := r.uncons
    obtain ⟨l, ts, e1, ht, hq⟩ := gAll_put is ds vs' _ ρ' r2 e
    refine ⟨by simp [l], (i, d, v) :: ts, e1, fun t h => ?_, fun σ Q h => ⟨v, vs', rfl, hq (σ.set i (some v)) Q h⟩⟩
    rcases List.mem_cons.mp h with rfl | h
    · exact ⟨by simp, r1⟩
    · exact ⟨List.mem_cons_of_mem _ (ht t h).1, (ht t h).2⟩
  | [], _ :: _, _, _, _, _, e => by cases e
  | _ :: _, [], _, _, _, _, e => by cases e
theorem tgx_t (is : List Nat) : TGX K cm (gT is) (L2.gTup K is.length (gNames is)) is := fun {H N ph d v ρ ρ'} r e => by
  cases d with
  | tup ds =>
    obtain ⟨a, vs, rfl, t, rl⟩ := tup_of r
    obtain ⟨l, ts, e1, ht, hq⟩ := gAll_put is ds vs ρ ρ' rl e
    exact ⟨ts, e1, ht, fun σ Q h => ⟨a, vs, rfl, t.seq, l, hq σ Q h⟩⟩
  | _ => cases e
theorem EnvE.setd {i : Nat} {d : D} {v : V} (r : Rep K cm H (OO O ph) ph d v) (h : EnvE K cm xa O H ph ρ σ) : EnvE K cm xa O H ph (ρ.set i (.val d)) (σ.set i (some v)) := by
  refine ⟨by simp [h.len], fun j s x e1 e2 => ?_, h.tr⟩
  rcases get_set_or e1 with ⟨e, e3⟩ | ⟨e, e3⟩
  · subst e e3
    rcases get_set_or e2 with ⟨_, e4⟩ | ⟨n, _⟩
    · subst e4; exact ⟨v, rfl, r⟩
    · exact absurd rfl n
  · rw [List.getElem?_set_ne e] at e2
    exact h.at_ j s x e3 e2
theorem EnvE.puts : ∀ (ts : List Put) {ρ : Env} {σ : St}, (∀ t ∈ ts, Rep K cm H (OO O ph) ph t.2.1 t.2.2) → EnvE K cm xa O H ph ρ σ → EnvE K cm xa O H ph (putE ts ρ) (putS ts σ)
  | [], _, _, _, h => h
  | t :: ts, ρ, σ, r, h => EnvE.puts ts (fun u hu => r u (List.mem_cons_of_mem _ hu)) (h.setd (r t List.mem_cons_self))
theorem EnvE.setn {i : Nat} (h : EnvE K cm xa O H ph ρ σ) : EnvE K cm xa O H ph (ρ.set i .none) (σ.set i none) := by
  refine ⟨by simp [h.len], fun j s x e1 e2 => ?_, h.tr⟩
  rcases get_set_or e1 with ⟨e, e3⟩ | ⟨e, e3⟩
  · subst e3; trivial
  · rw [List.getElem?_set_ne e] at e2
    exact h.at_ j s x e3 e2
theorem EnvE.wipes (h : EnvE K cm xa O H ph ρ σ) : ∀ is : List Nat, EnvE K cm xa O H ph (wipeE ρ is) (L2.wipe σ is)
  | [] => h
  | i :: is => (EnvE.wipes h is).setn
theorem putS_len : ∀ (ts : List Put) (σ : St), (putS ts σ).length = σ.length
  | [], _ => rfl
  | t :: ts, σ => by
    show (putS ts (σ.set t.1 (some t.2.2))).length = _
    rw [putS_len ts]; simp
theorem putS_out {j : Nat} : ∀ (ts : List Put) (σ : St), (∀ t ∈ ts, t.1 ≠ j) → (putS ts σ)[j]? = σ[j]?
  | [], _, _ => rfl
  | t :: ts, σ, h => by
    show (putS ts (σ.set t.1 (some t.2.2)))[j]? = _
    rw [putS_out ts _ fun u hu => h u (List.mem_cons_of_mem _ hu), List.getElem?_set_ne (h t List.mem_cons_self)]
theorem wipe_in {j : Nat} : ∀ {is : List Nat} {σ : St}, j ∈ is → j < σ.length → (L2.wipe σ is)[j]? = some none
  | i :: is, σ, h, l => by
    unfold L2.wipe
    by_cases e : i = j
    · subst e; rw [List.getElem?_set_self (by rw [L2.wipe_length]; exact l)]
    · rw [List.getElem?_set_ne e]
      rcases List.mem_cons.mp h with z | z
      · exact absurd z.symm e
      · exact wipe_in z l
theorem wipe_eq {is : List Nat} {σ τ : St} (hl : σ.length = τ.length) (h : ∀ j, j ∉ is → σ[j]? = τ[j]?) : L2.wipe σ is = L2.wipe τ is := by
  apply List.ext_getElem?
  intro j
  by_cases hj : j ∈ is
  · by_cases hb : j < σ.length
    · rw [wipe_in hj hb, wipe_in hj (by omega)]
    · rw [List.getElem?_eq_none (by rw [L2.wipe_length]; omega), List.getElem?_eq_none (by rw [L2.wipe_length]; omega)]
  · rw [L2.wipe_out hj, L2.wipe_out hj]; exact h j hj
theorem wipe_puts {is : List Nat} {ts : List Put} (h : ∀ t ∈ ts, t.1 ∈ is) : L2.wipe (putS ts (L2.wipe σ is)) is = L2.wipe σ is := by
  refine wipe_eq (by rw [putS_len, L2.wipe_length]) fun j hj => ?_
  rw [putS_out ts _ fun t ht e => hj (by rw [← e]; exact h t ht), L2.wipe_out hj]
/-- slots take values -/
theorem StS.puts : ∀ (ts : List Put) {ρ : Env} {σ : St}, (∀ t ∈ ts, Rep K cm H (NN q ρ σ ph) ph t.2.1 t.2.2) → StS K cm xa q ρ ph w σ H → StS K cm xa q (putE ts ρ) ph w (putS ts σ) H ∧ Keep H (NN q ρ σ ph) H (NN q (putE ts ρ) (putS ts σ) ph)
  | [], _, _, _, h => ⟨h, .refl⟩
  | t :: ts, ρ, σ, r, h => by
    have k : Keep H (NN q ρ σ ph) H (NN q (ρ.set t.1 (.val t.2.1)) (σ.set t.1 (some t.2.2)) ph) := keep_set fun _ z => by cases z
    obtain ⟨h2, k2⟩ := StS.puts ts (fun u hu => (r u (List.mem_cons_of_mem _ hu)).keep k (fun _ e => e) _ _) (h.setd (r t List.mem_cons_self))
    exact ⟨h2, k.trans k2⟩

/-! a, b = e -/
theorem psx_unp {tg e : Expr} {fe : EF} {is : List Nat} (he : PX X c e fe) (hg : PG X tg (L2.gTup X.K is.length (gNames is))) (hs : swapsWithSole [tg] e pos.line X.env = pure false := by rfl) (hw : swappedStores [tg] e X.env = pure none := by rfl)
    (h1 : (assignEach [tg] X.env).map (·.2) = [assign tg X.env] := by rfl) : PSX X c q (.Assign [tg] e pos) (sUnp is fe) :=
  PS.to (L2.ps_asg he hg hs hw h1) fun D σ H ⟨ρ, ph, w, h, hp⟩ => ⟨_, ρ, ph, w, (onE_run h hp).imp fun v H1 ⟨d, ph1, w1, r, h1, k, hp1⟩ => by
    cases e : gT is d ρ with
    | none => rw [e] at hp1; exact (show False from hp1).elim
    | some ρ' =>
      rw [e] at hp1
      obtain ⟨ts, rfl, ht, hq⟩ := tgx_t is r e
      obtain ⟨h2, k2⟩ := StS.puts ts (fun t m => (ht t m).2) h1
      exact hq σ _ (hp1 _ _ ph1 h2 k2.kp)⟩
theorem psx_par {i j : Nat} {x y : Str} {a b : Expr} {fa fb : EF} {px py pt : Pos} {kt k2 pt2} (hc : X.calm = true) (hN : X.N.Nodup) (hi : X.N[i]? = some x) (hj : X.N[j]? = some y) (hij : i ≠ j)
    (hx : X.env.scope.names.lookup x = some .local) (hy : X.env.scope.names.lookup y = some .local) (ha : PAX X c [a, b] [fa, fb])
    (hw : swappedStores [.Tuple [.Name x px, .Name y py] kt pt] (.Tuple [a, b] k2 pt2) X.env = pure (some [x, y]))
    (hs : swapsWithSole [.Tuple [.Name x px, .Name y py] kt pt] (.Tuple [a, b] k2 pt2) pos.line X.env = pure false := by rfl) :
    PSX X c q (.Assign [.Tuple [.Name x px, .Name y py] kt pt] (.Tuple [a, b] k2 pt2) pos) (sPar i j fa fb) :=
  PS.to (L2.ps_par hc hN hi hj hij hx hy ha hw hs) fun D σ H ⟨ρ, ph, w, h, hp⟩ => ⟨_, ρ, ph, w, (onE_run (rel := relL X.K c.cm _) h hp).imp fun vs H1 ⟨ds, ph1, w1, r, h1, k, hp1⟩ => by
    match ds, r, hp1 with
    | [d1, d2], r, hp1 =>
      obtain ⟨v1, r1, rfl, q1, q2⟩ := RepL.uncons r
      obtain ⟨v2, r3, rfl, q3, q4⟩ := q2.uncons
      cases q4.unnil
      refine ⟨v1, v2, rfl, ?_⟩
      have kk : Keep H1 (NN q ρ σ ph1) H1 (NN q (ρ.set i (.val d1)) (σ.set i (some v1)) ph1) := keep_set fun _ z => by cases z
      have k2 : Keep H1 (NN q (ρ.set i (.val d1)) (σ.set i (some v1)) ph1) H1 (NN q ((ρ.set i (.val d1)).set j (.val d2)) ((σ.set i (some v1)).set j (some v2)) ph1) := keep_set fun _ z => by cases z
      exact hp1 _ _ ph1 ((h1.setd q1).setd (q3.keep kk (fun _ e => e) _ _)) (kk.trans k2).kp
    | [], _, hp1 => exact (show False from hp1).elim
    | [_], _, hp1 => exact (show False from hp1).elim
    | _ :: _ :: _ :: _, _, hp1 => exact (show False from hp1).elim⟩
/-! hand[k] = e -/
theorem StS.hset {hs : List D} {j : Nat} {d : D} {v : V} {p : Addr} {vs : List V} (e : ph = some p) (hv : H p = some (.lst vs)) (r : Rep K cm H (NN q ρ σ ph) ph d v) (h : StS K cm xa q ρ ph (some hs) σ H) :
    StS K cm xa q ρ ph (some (hs.set j d)) σ (upd H p (.lst (vs.set j v))) ∧ Keep H (NN q ρ σ ph) (upd H p (.lst (vs.set j v))) (NN q ρ σ ph) := by
  subst e
  have kk : Keep H (NN q ρ σ (some p)) (upd H p (.lst (vs.set j v))) (NN q ρ σ (some p)) := ⟨fun b o n e => by rw [upd_ne (fun (z : b = p) => n (.inr (by rw [z])))]; exact e, fun b o _ x => x⟩
  obtain ⟨ws, h1, h2⟩ := h.hand
  rw [hv] at h1; cases h1
  have np : ∀ a, OwnS q.O0 ρ σ a → a ≠ p := fun a o z => (h.env.tr a o).1 (by rw [z])
  refine ⟨⟨⟨h.env.len, fun i s x e1 e2 => (h.env.at_ i s x e1 e2).keep kk (fun _ e => e) fun ds p' _ _ o => ⟨o, fun u z => by rw [upd_ne (np p' o)]; exact z⟩, fun a o => ?_⟩, ?_, fun b o n e => ?_, h.phs, h.o0, h.inj, h.fresh⟩, kk⟩
  · obtain ⟨y, us, z⟩ := h.env.tr a o
    exact ⟨y, us, by rw [upd_ne (np a o)]; exact z⟩
  · exact ⟨vs.set j v, upd_same, RepL.set (h2.keep kk (fun _ e => e) hs vs) (r.keep kk (fun _ e => e) d v)⟩
  · rw [upd_ne (fun z => ?_)]
    · exact h.base b o n e
    · subst z
      rcases h.phs with y | ⟨_, p', y, hp'⟩
      · exact n y.symm
      · cases y; rw [hp'] at e; cases e
theorem psx_hset {o i e : Expr} {fo fi fe : EF} {p2 : Pos} (he : PX X c e fe) (ho : PX X c o fo) (hi : PX X c i fi)
    (hg : PG X (.Subscript o i p2) (L2.gSub (tX X.K c.cm c.xa c.Wx fo) (tX X.K c.cm c.xa c.Wx fi) L2.rSetL)) (hs : swapsWithSole [.Subscript o i p2] e pos.line X.env = pure false := by rfl) (hw : swappedStores [.Subscript o i p2] e X.env = pure none := by rfl)
    (h1 : (assignEach [.Subscript o i p2] X.env).map (·.2) = [assign (.Subscript o i p2) X.env] := by rfl) : PSX X c q (.Assign [.Subscript o i p2] e pos) (sHSet fo fi fe) :=
  PS.to (L2.ps_asg he hg hs hw h1) fun D σ H ⟨ρ, ph, w, h, hp⟩ => by
    have r0 := onE_run (rel := relL X.K c.cm (OwnS q.O0 ρ σ)) h hp
    refine ⟨_, ρ, ph, w, (Run.bind (rel := relV X.K c.cm (OwnS q.O0 ρ σ)) r0).imp fun v H1 ⟨d, ph1, w1, e1, s1, r1, h1⟩ => ?_⟩
    refine ⟨_, ρ, ph1, w1, (Run.bind (rel := relV X.K c.cm (OwnS q.O0 ρ σ)) h1).imp fun ov H2 ⟨od, ph2, w2, e2, s2, r2, h2⟩ => ?_⟩
    refine ⟨_, ρ, ph2, w2, (Run.bind (rel := relV X.K c.cm (OwnS q.O0 ρ σ)) h2).imp fun iv H3 ⟨id, ph3, w3, e3, s3, r3, h3⟩ => ?_⟩
    have r1' := Rep.keep (Ext.keep e3 s3) s3.m d v (Rep.keep (Ext.keep e2 s2) s2.m d v r1)
    have r2' := Rep.keep (Ext.keep e3 s3) s3.m od ov r2
    obtain ⟨xs, ph4, w4, r4, h4, k4, hp4⟩ := h3.ret (b := [v, ov, iv]) (RepL.cons r1' (RepL.cons r2' (RepL.cons r3 RepL.nil)))
    rcases hsK_cases ρ xs w4 with e0 | ⟨d', i, hs, rfl, rfl⟩
    · rw [e0] at hp4; exact (show False from hp4).elim
    · obtain ⟨_, _, e5, q1, q2⟩ := RepL.uncons r4
      cases e5
      obtain ⟨_, _, e5, q3, q4⟩ := q2.uncons
      cases e5
      obtain ⟨_, _, e5, q5, q6⟩ := q4.uncons
      cases e5
      cases int_of q5
      simp only [Rep] at q3
      obtain ⟨p, e6, rfl⟩ := q3
      subst e6
      have hh := h4.hand
      obtain ⟨vs, hv, hr⟩ := hh
      unfold hsK at hp4
      cases ej : ixP hs.length i with
      | none => simp only [ej] at hp4; exact (show False from hp4).elim
      | some j =>
        simp only [ej] at hp4
        obtain ⟨h5, k5⟩ := h4.hset (j := j) rfl hv q1
        exact ⟨p, vs, i, j, rfl, rfl, hv, by rw [ixP_eq, ← hr.length]; exact ej, hp4 σ _ _ h5 k5.kp⟩

/-! ### what is walked -/
/-- J goes through xs while C holds -/
structure Feeds (K : PySem.W.Frag) (cm : Nat → Addr) (J : It) (xs : List D) (C : Hp → NS → Option Addr → Prop) : Prop where
  stay : ∀ {H N H' N' ph ph'}, C H N ph → Keep H N H' N' → PhM ph ph' → C H' N' ph'
  walk : ∃ (G : Hp → Prop) (Y : Nat → Hp → V → Hp → Prop), Walk J xs.length G Y ∧ (∀ H N ph, C H N ph → G H) ∧
    ∀ i d H N ph x H', C H N ph → (∀ p, H p = none → ¬ N p) → xs[i]? = some d → Y i H x H' → (∀ b o, H b = some o → H' b = some o) ∧ Rep K cm H' N ph d x
def relI (K : PySem.W.Frag) (cm : Nat → Addr) (O : NS) : Hp → Option Addr → List D → It → Prop := fun H ph xs J => ∃ C, C H (OO O ph) ph ∧ Feeds K cm J xs C
abbrev PIX (X : Cx) (c : Cfg) (tg iter : Expr) (f : IF) : Prop := PI X tg iter (fun σ H R => ∃ O ρ ph w, Run X.K c.cm c.xa O (relI X.K c.cm O) c.Wx ρ σ ph H w (f ρ) R)
theorem PI.to {tg iter : Expr} {t t' : TI} (h : PI X tg iter t) (m : ∀ σ H R, t' σ H R → t σ H R) : PI X tg iter t' := ⟨fun pins s σ H R I q => h.run pins s σ H R I (m σ H R q)⟩
theorem feeds_list {a : Addr} {ds : List D} {vs : List V} : Feeds K cm (L2.Itl K a) ds (fun H N ph => LN K H N a vs ∧ RepL K cm H N ph ds vs) :=
  ⟨fun h k m => ⟨h.1.keep k, h.2.keep k m ds vs⟩, fun H => L2.SqL K H a vs ∧ ds.length = vs.length, L2.YAt vs, ⟨fun i H hi h => by rw [h.2] at hi; exact (L2.walk_list (K := K) (a := a) (xs := vs)).goes i H hi h.1, fun H h => by rw [h.2]; exact (L2.walk_list (K := K) (a := a) (xs := vs)).stops H h.1, fun i H x H' hi h => by rw [h.2] at hi; exact (L2.walk_list (K := K) (a := a) (xs := vs)).yields i H x H' hi h.1⟩,
    fun H N ph h => ⟨h.1.seq, h.2.length⟩, fun i d H N ph x H' h _ e y => by
      obtain ⟨rfl, y⟩ := y
      obtain ⟨v, e1, r⟩ := h.2.get e
      rw [y] at e1; cases e1
      exact ⟨fun _ _ e => e, r⟩⟩
theorem feeds_tup {a : Addr} {ds : List D} {vs : List V} : Feeds K cm (L2.Itt K a) ds (fun H N ph => TN K H N a vs ∧ RepL K cm H N ph ds vs) :=
  ⟨fun h k m => ⟨h.1.keep k, h.2.keep k m ds vs⟩, fun H => L2.SqT K H a vs ∧ ds.length = vs.length, L2.YAt vs, ⟨fun i H hi h => by rw [h.2] at hi; exact (L2.walk_tup (K := K) (a := a) (xs := vs)).goes i H hi h.1, fun H h => by rw [h.2]; exact (L2.walk_tup (K := K) (a := a) (xs := vs)).stops H h.1, fun i H x H' hi h => by rw [h.2] at hi; exact (L2.walk_tup (K := K) (a := a) (xs := vs)).yields i H x H' hi h.1⟩,
    fun H N ph h => ⟨h.1.seq, h.2.length⟩, fun i d H N ph x H' h _ e y => by
      obtain ⟨rfl, y⟩ := y
      obtain ⟨v, e1, r⟩ := h.2.get e
      rw [y] at e1; cases e1
      exact ⟨fun _ _ e => e, r⟩⟩
theorem rangeL_get {lo hi : Int} {i : Nat} {d : D} (e : (rangeL lo hi)[i]? = some d) : d = .int (lo + i) := by
  unfold rangeL at e
  rw [List.getElem?_map] at e
  cases q : (List.range (hi - lo).toNat)[i]? with
  | none => rw [q] at e; cases e
  | some k =>
    rw [q] at e
    have := List.getElem?_range (n := (hi - lo).toNat) (i := i) (by
      have := (List.getElem?_eq_some_iff.mp q).1; simpa using this)
    rw [this] at q; cases q
    cases e; rfl
theorem feeds_range {lo hi : Int} : Feeds K cm (L2.Itr lo (hi - lo).toNat) (rangeL lo hi) (fun _ _ _ => True) :=
  ⟨fun h _ _ => h, fun _ => True, L2.YFn fun i => .int (lo + i), by
    have e : (rangeL lo hi).length = (hi - lo).toNat := by unfold rangeL; simp
    rw [e]; exact L2.walk_range, fun _ _ _ _ => trivial, fun i d H N ph x H' _ _ e y => by
      obtain ⟨rfl, rfl⟩ := y
      rw [rangeL_get e]
      exact ⟨fun _ _ e => e, by simp [Rep]⟩⟩
/-- new pairs -/
theorem pair_new {T : Addr} {x y : V} {d e : D} (hn : ∀ p, H p = none → ¬ N p) (hT : H T = none) (r : Rep K cm H N ph d x) (s : Rep K cm H N ph e y) : (∀ b o, H b = some o → (upd H T (.tup [x, y])) b = some o) ∧ Rep K cm (upd H T (.tup [x, y])) N ph (.tup [d, e]) (.ref T) := by
  have k : Keep H N (upd H T (.tup [x, y])) N := ⟨fun b o _ e => by rw [upd_ne (ne_of_none e hT)]; exact e, fun _ _ _ z => z⟩
  refine ⟨fun b o e => by rw [upd_ne (ne_of_none e hT)]; exact e, ?_⟩
  simp only [Rep]
  exact ⟨T, [x, y], rfl, .inl ⟨hn T hT, .inl upd_same⟩, RepL.cons (r.keep k (fun _ e => e) _ _) (RepL.one (s.keep k (fun _ e => e) _ _))⟩
theorem enumL_get {xs : List D} {i : Nat} {d : D} (e : (enumL xs)[i]? = some d) : ∃ x, xs[i]? = some x ∧ d = .tup [.int (i : Int), x] := by
  unfold enumL at e
  rw [List.getElem?_map, List.getElem?_zipIdx] at e
  cases q : xs[i]? with
  | none => rw [q] at e; cases e
  | some x => rw [q] at e; cases e; exact ⟨x, rfl, by simp⟩
theorem feeds_enum {a : Addr} {ds : List D} {vs : List V} : Feeds K cm (L2.Ite K a) (enumL ds) (fun H N ph => LN K H N a vs ∧ RepL K cm H N ph ds vs) :=
  have el : (enumL ds).length = ds.length := by unfold enumL; simp
  ⟨fun h k m => ⟨h.1.keep k, h.2.keep k m ds vs⟩, fun H => L2.SqL K H a vs ∧ (enumL ds).length = vs.length, L2.YPair (fun i => some (.int (i : Nat))) (fun i => vs[i]?), ⟨fun i H hi h => by rw [h.2] at hi; exact (L2.walk_enum (K := K) (a := a) (xs := vs)).goes i H hi h.1, fun H h => by rw [h.2]; exact (L2.walk_enum (K := K) (a := a) (xs := vs)).stops H h.1, fun i H x H' hi h => by rw [h.2] at hi; exact (L2.walk_enum (K := K) (a := a) (xs := vs)).yields i H x H' hi h.1⟩,
    fun H N ph h => ⟨h.1.seq, el.trans h.2.length⟩, fun i d H N ph x H' h hn e y => by
      obtain ⟨T, x1, y1, rfl, hT, rfl, e1, e2⟩ := y
      obtain ⟨d1, e3, rfl⟩ := enumL_get e
      obtain ⟨v, e4, r⟩ := h.2.get e3
      have e2 : vs[i]? = some y1 := e2
      rw [e2] at e4; cases e4
      cases e1
      exact pair_new hn hT (by simp [Rep]) r⟩
/-- over a list or a tuple -/
theorem pix_seq {tg e : Expr} {fe : EF} (hh : ∀ {tl : TE}, PE X e tl → PI X tg e (fun σ H R => tl σ H fun x H1 => ∃ a, x = .ref a ∧ ((∃ xs, L2.SqL X.K H1 a xs ∧ R (L2.Itl X.K a) H1) ∨ (∃ xs, L2.SqT X.K H1 a xs ∧ R (L2.Itt X.K a) H1)))) (he : PX X c e fe) : PIX X c tg e (iSeq fe) :=
  PI.to (hh he) fun σ H R ⟨O, ρ, ph, w, h⟩ => ⟨O, ρ, ph, w, (Run.bind (rel := relV X.K c.cm O) h).imp fun v H1 ⟨d, ph1, w1, e1, s1, r1, h1⟩ => by
    cases d with
    | lst ds =>
      obtain ⟨a, vs, rfl, ⟨n, t⟩, rl⟩ := lst_of r1
      exact ⟨a, rfl, .inl ⟨vs, .inl (.inl t), h1.ret (b := L2.Itl X.K a) ⟨_, ⟨.inl ⟨n, .inl t⟩, rl⟩, feeds_list⟩⟩⟩
    | frz ds =>
      obtain ⟨a, vs, rfl, t, rl⟩ := frz_of r1
      exact ⟨a, rfl, .inl ⟨vs, t.seq, h1.ret (b := L2.Itl X.K a) ⟨_, ⟨t, rl⟩, feeds_list⟩⟩⟩
    | tup ds =>
      obtain ⟨a, vs, rfl, t, rl⟩ := tup_of r1
      exact ⟨a, rfl, .inr ⟨vs, t.seq, h1.ret (b := L2.Itt X.K a) ⟨_, ⟨t, rl⟩, feeds_tup⟩⟩⟩
    | _ => exact h1.no⟩
theorem pi_any {tg l : Expr} {tl : TE} (hl : PE X l tl) : PI X tg l (fun σ H R => tl σ H fun x H1 => ∃ a, x = .ref a ∧ ((∃ xs, L2.SqL X.K H1 a xs ∧ R (L2.Itl X.K a) H1) ∨ (∃ xs, L2.SqT X.K H1 a xs ∧ R (L2.Itt X.K a) H1))) := by
  refine ⟨fun pins s σ H R I h => L2.thn (hl.run pins s σ H _ I h) fun u s2 ⟨x, H2, I2, rx, a, ex, hq⟩ => ?_⟩
  subst ex
  cases rx
  have fr : L2.FpOk X pins H2 s2.heap.objs.size := I2.fpOk (Nat.le_refl _) (I2.hok.fresh (Nat.le_refl _))
  rcases hq with ⟨xs, hx, hR⟩ | ⟨xs, hx, hR⟩
  · obtain ⟨its, rv, pl, hz⟩ := I2.list hx
    exact wpAny_pyIter_list pl.isList ⟨s2.heap.objs.size, [s2.heap.objs.size], _, _, H2, rfl, I2.kept (t' := s2.toks) fun b o q => Heap.get?_push_of_some _ q, L2.turn_list a _, ⟨_, Heap.get?_push_size _ rfl, rfl, rfl⟩, fun b hb => by
      rw [List.mem_singleton.mp hb]; exact fr, hR⟩
  · obtain ⟨its, rv, pl, hz⟩ := I2.tuple hx
    exact wpAny_pyIter_tuple (show s2.heap.IsTuple a its.toArray from pl) ⟨s2.heap.objs.size, [s2.heap.objs.size], _, _, H2, rfl, I2.kept (t' := s2.toks) fun b o q => Heap.get?_push_of_some _ q, L2.turn_tuple a _, ⟨_, Heap.get?_push_size _ rfl, rfl, rfl⟩, fun b hb => by
      rw [List.mem_singleton.mp hb]; exact fr, hR⟩
theorem pix_any {tg e : Expr} {fe : EF} (he : PX X c e fe) : PIX X c tg e (iSeq fe) := pix_seq pi_any he
theorem range_run {xa O Wx ρ σ ph H w} {R : It → Hp → Prop} {d1 d2 : D} {v1 v2 : V} (r1 : Rep K cm H (OO O ph) ph d1 v1) (r2 : Rep K cm H (OO O ph) ph d2 v2) (h : Run K cm xa O (relI K cm O) Wx ρ σ ph H w (rangeM d1 d2) R) :
    ∃ i j : Int, v1 = .int i ∧ v2 = .int j ∧ (-(2 ^ 62) ≤ i ∧ i < 2 ^ 62 ∧ -(2 ^ 62) ≤ j ∧ j < 2 ^ 62) ∧ R (L2.Itr i (j - i).toNat) H := by
  cases d1 <;> cases d2 <;> try exact h.no
  rename_i i j
  by_cases hb : (near i && near j) = true
  · simp only [rangeM, if_pos hb] at h
    have hc : -(2 ^ 62) ≤ i ∧ i < 2 ^ 62 ∧ -(2 ^ 62) ≤ j ∧ j < 2 ^ 62 := by
      rw [Bool.and_eq_true] at hb
      exact ⟨(near_of hb.1).1, (near_of hb.1).2, (near_of hb.2).1, (near_of hb.2).2⟩
    exact ⟨i, j, int_of r1, int_of r2, hc, h.ret ⟨_, trivial, feeds_range⟩⟩
  · simp only [rangeM, if_neg hb] at h; exact h.no
theorem pix_range2 {tg a b : Expr} {fa fb : EF} {p : Pos} (hg : L2.Gl X "range") (hm : X.mg "range" = none) (ha : PX X c a fa) (hb : PX X c b fb) (hs : starEach [a, b] X.env = [(false, eval a X.env), (false, eval b X.env)] := by rfl) (hs2 : starEach [b] X.env = [(false, eval b X.env)] := by rfl)
    (he : starEach (a :: [b]) X.env = (false, eval a X.env) :: starEach [b] X.env := by rfl) (he2 : starEach (b :: []) X.env = (false, eval b X.env) :: starEach [] X.env := by rfl) :
    PIX X c tg (.Call (.Name "range" p) [a, b] [] pos) (iRng fa fb) :=
  PI.to (L2.pi_range2 hg hm (L2.pa_cons ha (L2.pa_cons hb L2.pa_nil he2) he) hs hs2) fun σ H R ⟨O, ρ, ph, w, h⟩ => ⟨O, ρ, ph, w, (Run.bind (rel := relV X.K c.cm O) h).imp fun v H1 ⟨d, ph1, w1, e1, s1, r1, h1⟩ => ⟨O, ρ, ph1, w1, (Run.bind (rel := relV X.K c.cm O) h1).imp fun v2 H2 ⟨d2, ph2, w2, e2, s2, r2, h2⟩ => by
    obtain ⟨i, j, rfl, rfl, hb, q⟩ := range_run (Rep.keep (Ext.keep e2 s2) s2.m d v r1) r2 h2
    exact ⟨i, j, rfl, hb, q⟩⟩⟩
theorem pix_range1 {tg a : Expr} {fa : EF} {p : Pos} (hg : L2.Gl X "range") (hm : X.mg "range" = none) (ha : PX X c a fa) (hs : starEach [a] X.env = [(false, eval a X.env)] := by rfl) (he : starEach (a :: []) X.env = (false, eval a X.env) :: starEach [] X.env := by rfl) :
    PIX X c tg (.Call (.Name "range" p) [a] [] pos) (iRng (eC (.int 0)) fa) :=
  PI.to (L2.pi_range1 hg hm (L2.pa_cons ha L2.pa_nil he) hs) fun σ H R ⟨O, ρ, ph, w, h⟩ => by
    have h' : Run X.K c.cm c.xa O (relI X.K c.cm O) c.Wx ρ σ ph H w (M.bind (fa ρ) fun y => rangeM (.int 0) y) R := h
    refine ⟨O, ρ, ph, w, (Run.bind (rel := relV X.K c.cm O) h').imp fun v2 H2 ⟨d2, ph2, w2, e2, s2, r2, h2⟩ => ?_⟩
    obtain ⟨i, j, ei, rfl, hb, q⟩ := range_run (v1 := .int 0) (by simp [Rep]) r2 h2
    cases ei
    refine ⟨j, rfl, hb.2.2.1, hb.2.2.2, ?_⟩
    have e0 : j - 0 = j := Int.sub_zero j
    rw [e0] at q; exact q

/-! ### for -/
theorem psx_for {tg iter : Expr} {body : List Stmt} {f : IF} {g : GF} {gt : TG} {is : List Nat} {b : SF} (hp : PassesOwn (model X.prog X.w) X.A X.env X.xe) (hc : X.calm = true) (hi : PIX X c tg iter f) (hg : PG X tg gt) (hG : TGX X.K c.cm g gt is) (hb : PSSX X c q body b)
    (hs : ∀ x, foldedSetIterable iter X.env x = pure x := by intro _; rfl) : PSX X c q (.For tg iter body [] pos) (sFor f g b) :=
  PS.to (L2.ps_for hp hc hi hg hb hs) fun D σ H ⟨ρ, ph, w, h, hpo⟩ => by
    refine ⟨_, ρ, ph, w, (onE_run h hpo).imp fun J H1 ⟨xs, ph1, w1, ⟨C, hC, F⟩, h1, k1, hp1⟩ => ?_⟩
    obtain ⟨G, Y, hw, hCG, hY⟩ := F.walk
    refine L2.for_it hw (fun i σ' H' => ∃ ρ' ph' w', StS X.K c.cm c.xa q ρ' ph' w' σ' H' ∧ C H' (NN q ρ' σ' ph') ph' ∧ Post2 X.K c.cm c.xa q c.Wx D H' (NN q ρ' σ' ph') ph' (forL g b (xs.drop i) ρ' w')) ⟨ρ, ph1, w1, h1, hC, hp1⟩ (fun i σ' H' _ ⟨ρ', ph', w', _, hC', _⟩ => hCG _ _ _ hC') ?_ ?_
    · rintro i x σ2 H2 H3 hi ⟨ρ2, ph2, w2, h2, hC2, hp2⟩ y
      have ex : xs[i]? = some xs[i] := List.getElem?_eq_getElem hi
      obtain ⟨kx, rx⟩ := hY i xs[i] H2 (NN q ρ2 σ2 ph2) ph2 x H3 hC2 (fun p hpn => fresh_oo h2.env.tr h2.hand hpn) ex y
      have xt : Ext ph2 H2 H3 := fun b o _ e => kx b o e
      have hh3 : HandOk X.K c.cm H3 (OwnS q.O0 ρ2 σ2) ph2 w2 := h2.hand.keep (Ext.keep xt .refl) fun p _ o e => kx p o e
      have h3 := h2.ext xt .refl hh3
      have k3 : Keep H2 (NN q ρ2 σ2 ph2) H3 (NN q ρ2 σ2 ph2) := Ext.keep xt .refl
      have ed : xs.drop i = xs[i] :: xs.drop (i + 1) := List.drop_eq_getElem_cons hi
      rw [ed] at hp2
      cases eg : g xs[i] ρ2 with
      | none => rw [forL_none eg] at hp2; exact (show False from hp2).elim
      | some ρ3 =>
        rw [forL_cons eg] at hp2
        obtain ⟨ts, rfl, ht, hq⟩ := hG rx eg
        obtain ⟨h4, k4⟩ := StS.puts ts (fun t m => (ht t m).2) h3
        refine hq σ2 _ ⟨_, ph2, w2, h4, ?_⟩
        have kk := k3.trans k4
        have hC4 := F.stay hC2 kk (fun _ e => e)
        have hp4 := hp2.keep kk.kp
        revert hp4
        cases eb : b (putE ts ρ2) w2 with
        | nx ρ5 w5 => exact fun hp4 σ5 H5 ph5 h5 k5 => ⟨ρ5, ph5, w5, h5, F.stay hC4 k5.k k5.m, hp4.keep k5⟩
        | ct ρ5 w5 => exact fun hp4 σ5 H5 ph5 h5 k5 => ⟨ρ5, ph5, w5, h5, F.stay hC4 k5.k k5.m, hp4.keep k5⟩
        | bk ρ5 w5 => exact fun hp4 => hp4
        | rt d w5 => exact fun hp4 => hp4
        | ex c ns xs ρ5 w5 => exact fun hp4 => hp4
        | bad => exact fun hp4 => hp4
    · rintro σ2 H2 ⟨ρ2, ph2, w2, h2, hC2, hp2⟩
      rw [List.drop_length] at hp2
      exact hp2 σ2 H2 ph2 h2 .refl
/-! ### while -/
theorem psx_while {t : Expr} {body : List Stmt} {ft : TF} {b : SF} (fuel : Env → Wd → Nat) (hp : PassesOwn (model X.prog X.w) X.A X.env X.xe) (ht : PTX X c t ft) (hb : PSSX X c q body b) : PSX X c q (.While t body [] pos) (sWhile fuel ft b) :=
  PS.to (L2.ps_while hp ht hb) fun D σ H ⟨ρ, ph, w, h, hpo⟩ => by
    refine ⟨fun n σ' H' => ∃ ρ' ph' w', StS X.K c.cm c.xa q ρ' ph' w' σ' H' ∧ Post2 X.K c.cm c.xa q c.Wx D H' (NN q ρ' σ' ph') ph' (whileL ft b n ρ' w'), ⟨_, ρ, ph, w, h, hpo⟩, ?_⟩
    rintro n σ2 H2 ⟨ρ2, ph2, w2, h2, hp2⟩
    cases n with
    | zero => exact (show False from hp2).elim
    | succ n =>
      refine ⟨_, ρ2, ph2, w2, (onE_run (rel := relB) h2 hp2).imp fun k H3 ⟨k', ph3, w3, r3, h3, kp3, hp3⟩ => ?_⟩
      cases r3
      cases k with
      | false => exact hp3 σ2 H3 ph3 h3 .refl
      | true =>
        simp only [if_true] at hp3 ⊢
        refine ⟨fun σ' H' => ∃ ρ' ph' w', StS X.K c.cm c.xa q ρ' ph' w' σ' H' ∧ Post2 X.K c.cm c.xa q c.Wx D H' (NN q ρ' σ' ph') ph' (whileL ft b n ρ' w'), fun σ' H' hh => ⟨n, Nat.lt_succ_self n, hh⟩, ρ2, ph3, w3, h3, ?_⟩
        revert hp3
        cases eb : b ρ2 w3 with
        | nx ρ5 w5 => exact fun hp4 σ5 H5 ph5 h5 k5 => ⟨ρ5, ph5, w5, h5, hp4.keep k5⟩
        | ct ρ5 w5 => exact fun hp4 σ5 H5 ph5 h5 k5 => ⟨ρ5, ph5, w5, h5, hp4.keep k5⟩
        | bk ρ5 w5 => exact fun hp4 => hp4
        | rt d w5 => exact fun hp4 => hp4
        | ex c ns xs ρ5 w5 => exact fun hp4 => hp4
        | bad => exact fun hp4 => hp4

/-! ### comprehensions -/
def delD (H : Hp) (D : Addr) : Hp := fun b => if b = D then none else H b
theorem delD_same {D : Addr} : delD H D D = none := if_pos rfl
theorem delD_ne {D b : Addr} (h : b ≠ D) : delD H D b = H b := if_neg h
theorem delD_some {D b : Addr} {o : HO} (h : delD H D b = some o) : b ≠ D ∧ H b = some o := by
  by_cases e : b = D
  · subst e; rw [delD_same] at h; cases h
  · rw [delD_ne e] at h; exact ⟨e, h⟩
theorem upd_del {D : Addr} {o : HO} (h : H D = some o) : upd (delD H D) D o = H := by
  funext b
  by_cases e : b = D
  · subst e; rw [upd_same, h]
  · rw [upd_ne e, delD_ne e]
theorem del_upd {D : Addr} {o : HO} (h : H D = none) : delD (upd H D o) D = H := by
  funext b
  by_cases e : b = D
  · subst e; rw [delD_same, h]
  · rw [delD_ne e, upd_ne e]
def addO (O : NS) (D : Addr) : NS := fun a => O a ∨ a = D
abbrev noW : WX := fun _ _ _ _ => False
/-- a run that raises nothing -/
theorem Run.noex {α β : Type} {rel : Hp → Option Addr → α → β → Prop} {m : M α} {Wx : WX} {Q : β → Hp → Prop} (h : Run K cm xa O rel Wx ρ σ ph H w (noEx m) Q) : Run K cm xa O rel noW ρ σ ph H w m Q := by
  refine ⟨h.env, h.hand, ?_⟩
  have hp := h.post
  unfold noEx at hp
  cases e : m w with
  | ok a w' => rw [e] at hp; exact hp
  | ex c ns xs w' => rw [e] at hp; exact (show False from hp).elim
  | bad => rw [e] at hp; exact (show False from hp).elim
/-- the state of a comprehension: D its list, acc what it holds -/
structure LcS (K : PySem.W.Frag) (cm : Nat → Addr) (xa : Option (Addr × Nat × Addr)) (O : NS) (D : Addr) (ρ : Env) (σ : St) (ph : Option Addr) (w : Wd) (ds : List FL.D) (n : Nat) (H : Hp) : Prop where
  env : EnvE K cm xa (addO O D) H ph ρ σ
  hand : HandOk K cm H (addO O D) ph w
  acc : ∃ vs, H D = some (.lst vs) ∧ RepL K cm H (OO (addO O D) ph) ph ds vs ∧ vs.length ≤ n
theorem addO_keep {D : Addr} : Keep H (OO (addO O D) ph) (delD H D) (OO O ph) :=
  ⟨fun b o n e => by rw [delD_ne (fun z => n (.inl (.inr z)))]; exact e, fun b o _ x => x.elim (fun y => .inl (.inl y)) .inr⟩
theorem del_ext {D : Addr} (x : Ext ph H H') : Ext ph (delD H D) (delD H' D) := fun b o n e => by
  obtain ⟨h1, h2⟩ := delD_some e
  rw [delD_ne h1]; exact x b o n h2
theorem del_phs {D : Addr} (s : PhS H ph ph') : PhS (delD H D) ph ph' := by
  rcases s with s | ⟨s, p, s2, hp⟩
  · exact .inl s
  · refine .inr ⟨s, p, s2, ?_⟩
    by_cases e : p = D
    · subst e; exact delD_same
    · rw [delD_ne e]; exact hp
theorem addO_new {D : Addr} {o : HO} (hD : H D = none) : Keep H (OO O ph) (upd H D o) (OO (addO O D) ph) := by
  refine ⟨fun b u _ e => by rw [upd_ne (ne_of_none e hD)]; exact e, fun b u e x => ?_⟩
  rcases x with (x | x) | x
  · exact .inl x
  · rw [x, hD] at e; cases e
  · exact .inr x
theorem addO_upd {D : Addr} {o : HO} : Keep H (OO (addO O D) ph) (upd H D o) (OO (addO O D) ph) :=
  ⟨fun b u n e => by rw [upd_ne (fun z => n (.inl (.inr z)))]; exact e, fun _ _ _ x => x⟩
/-- the places of own lists are not D -/
def NotD (D : Addr) (ρ : Env) (σ : St) : Prop := ∀ (i : Nat) p xs, ρ[i]? = some (.own xs) → σ[i]? = some (some (.ref p)) → p ≠ D
theorem LcS.start {D : Addr} {is : List Nat} (hD : H D = none) (he : EnvE K cm xa O H ph ρ σ) (hh : HandOk K cm H O ph w) : LcS K cm xa O D (wipeE ρ is) (L2.wipe σ is) ph w [] 0 (upd H D (.lst [])) ∧ NotD D (wipeE ρ is) (L2.wipe σ is) := by
  have hw := he.wipes is
  have kk := addO_new (O := O) (ph := ph) (o := .lst []) hD
  have nd : NotD D (wipeE ρ is) (L2.wipe σ is) := fun i p xs h1 h2 z => by
    obtain ⟨p', vs, e1, o, e2, _⟩ := hw.ownd h1
    rw [h2] at e1; cases e1
    rw [z, hD] at e2; cases e2
  have nph : ph ≠ some D := fun e => by
    obtain ⟨vs, z⟩ := hh.tr e
    rw [hD] at z; cases z
  refine ⟨⟨⟨hw.len, fun i s x e1 e2 => (hw.at_ i s x e1 e2).keep kk (fun _ e => e) fun ds p hs hx o => ⟨.inl o, fun u z => by rw [upd_ne (nd i p ds (by rw [e1, hs]) (by rw [e2, hx]))]; exact z⟩, fun a o => ?_⟩, hh.keep kk fun p e u z => by rw [upd_ne (ne_of_none z hD)]; exact z, [], upd_same, RepL.nil, Nat.le_refl _⟩, nd⟩
  rcases o with o | o
  · obtain ⟨n, vs, z⟩ := he.tr a o
    exact ⟨n, vs, by rw [upd_ne (ne_of_none z hD)]; exact z⟩
  · subst o; exact ⟨nph, [], upd_same⟩
theorem LcS.ext {D : Addr} {ds : List FL.D} {n : Nat} (x : Ext ph H H') (s : PhS H ph ph') (hk : HandOk K cm H' (addO O D) ph' w') (h : LcS K cm xa O D ρ σ ph w ds n H) : LcS K cm xa O D ρ σ ph' w' ds n H' := by
  obtain ⟨vs, h1, h2, h3⟩ := h.acc
  have nph : ph ≠ some D := (h.env.tr D (.inr rfl)).1
  exact ⟨h.env.ext x s, hk, vs, x D _ nph h1, h2.keep (Ext.keep x s) s.m ds vs, h3⟩
theorem LcS.app {D : Addr} {ds : List FL.D} {n : Nat} {d : FL.D} {v : V} {vs : List V} (nd : NotD D ρ σ) (h1 : H D = some (.lst vs)) (h2 : RepL K cm H (OO (addO O D) ph) ph ds vs) (h3 : vs.length ≤ n) (r : Rep K cm H (OO (addO O D) ph) ph d v)
    (h : LcS K cm xa O D ρ σ ph w ds n H) : LcS K cm xa O D ρ σ ph w (ds ++ [d]) (n + 1) (upd H D (.lst (vs ++ [v]))) := by
  have kk := addO_upd (H := H) (O := O) (ph := ph) (D := D) (o := .lst (vs ++ [v]))
  have nph : ph ≠ some D := (h.env.tr D (.inr rfl)).1
  refine ⟨⟨h.env.len, fun i s x e1 e2 => (h.env.at_ i s x e1 e2).keep kk (fun _ e => e) fun ds p hs hx o => ⟨o, fun u z => by rw [upd_ne (nd i p ds (by rw [e1, hs]) (by rw [e2, hx]))]; exact z⟩, fun a o => ?_⟩, h.hand.keep kk fun p e u z => by rw [upd_ne (fun y => nph (by rw [← y]; exact e))]; exact z, vs ++ [v], upd_same, (h2.append (RepL.one r)).keep kk (fun _ e => e) _ _, by rw [List.length_append]; simp; exact h3⟩
  by_cases z : a = D
  · subst z; exact ⟨nph, _, upd_same⟩
  · obtain ⟨n', us, e⟩ := h.env.tr a o
    exact ⟨n', us, by rw [upd_ne z]; exact e⟩
theorem lc_read {own : List (Str × Nat)} {f : IF} {g : GF} {gt : TG} {is : List Nat} {t : TF} {fe : EF} (his : own.map (·.2) = is) (hG : TGX X.K c.cm g gt is) : ∀ σ H Q, tNX X.K c.cm c.xa c.Wx (nLc f is g t fe) σ H Q →
    L2.tLc (fun σ H R => ∃ O ρ ph w, Run X.K c.cm c.xa O (relI X.K c.cm O) c.Wx ρ σ ph H w (f ρ) R) gt (tTX X.K c.cm c.xa noW t) (tX X.K c.cm c.xa noW fe) (own.map (·.2)) σ H Q := fun σ H Q ⟨O, ρ, ph, w, h⟩ => by
    subst his
    refine ⟨O, ρ, ph, w, (Run.bind (rel := relI X.K c.cm O) h).imp fun J H1 ⟨xs, ph1, w1, e1, s1, ⟨C, hC, F⟩, h1⟩ D hD => ?_⟩
    by_cases hl : xs.length ≤ line
    · simp only [if_pos hl] at h1
      obtain ⟨G, Y, hw, hCG, hY⟩ := F.walk
      obtain ⟨L0, nd⟩ := LcS.start (is := own.map (·.2)) hD h1.env h1.hand
      refine L2.lc_it hw (fun i H' => ∃ ds ph' w', LcS X.K c.cm c.xa O D (wipeE ρ (own.map (·.2))) (L2.wipe σ (own.map (·.2))) ph' w' ds i H' ∧ C H' (OO (addO O D) ph') ph' ∧
        Post1 X.K c.cm O (relL X.K c.cm O) c.Wx σ ph' (delD H' D) (fun vs H1 => ∀ p, H1 p = none → Q (.ref p) (upd H1 p (.lst vs))) (M.bind (lcL g t fe (wipeE ρ (own.map (·.2))) (xs.drop i)) (fun ys => M.ret (ds ++ ys)) w')) ?_ (fun i H' _ ⟨ds, ph', w', _, hC', _⟩ => hCG _ _ _ hC') ?_ ?_
      · refine ⟨[], ph1, w1, L0, F.stay hC (addO_new hD) (fun _ e => e), ?_⟩
        rw [del_upd hD, List.drop_zero]
        have e : M.bind (lcL g t fe (wipeE ρ (own.map (·.2))) xs) (fun ys => M.ret ([] ++ ys)) = lcL g t fe (wipeE ρ (own.map (·.2))) xs := by
          have : (fun ys : List FL.D => M.ret ([] ++ ys)) = M.ret := by funext ys; rw [List.nil_append]
          rw [this, bind_ret]
        rw [e]; exact h1.post
      · rintro i x H2 H3 hi ⟨ds, ph2, w2, L, hC2, hp2⟩ y
        have ex : xs[i]? = some xs[i] := List.getElem?_eq_getElem hi
        obtain ⟨kx, rx⟩ := hY i xs[i] H2 (OO (addO O D) ph2) ph2 x H3 hC2 (fun p hpn => fresh_oo L.env.tr L.hand hpn) ex y
        have xt : Ext ph2 H2 H3 := fun b o _ e => kx b o e
        have hh3 : HandOk X.K c.cm H3 (addO O D) ph2 w2 := L.hand.keep (Ext.keep xt .refl) fun p _ o e => kx p o e
        have L3 := L.ext xt .refl hh3
        have hC3 := F.stay hC2 (Ext.keep xt .refl) (fun _ e => e)
        have hp3 := hp2.ext (del_ext (D := D) xt) .refl
        have ed : xs.drop i = xs[i] :: xs.drop (i + 1) := List.drop_eq_getElem_cons hi
        rw [ed] at hp3
        cases eg : g xs[i] (wipeE ρ (own.map (·.2))) with
        | none => unfold lcL at hp3; rw [eg] at hp3; exact (show False from hp3).elim
        | some ρ1 =>
          obtain ⟨ts, e2, hts, hq⟩ := hG rx eg
          refine hq (L2.wipe σ (own.map (·.2))) _ ?_
          refine ⟨wipe_puts fun t m => (hts t m).1, addO O D, ρ1, ph2, w2, ?_⟩
          have E3 : EnvE X.K c.cm c.xa (addO O D) H3 ph2 ρ1 (putS ts (L2.wipe σ (own.map (·.2)))) := by rw [e2]; exact L3.env.puts ts fun t m => (hts t m).2
          refine ⟨E3, hh3, ?_⟩
          cases et : t ρ1 w2 with
          | ex => rw [lcL_badt eg (by rw [et]; intro _ _ z; cases z)] at hp3; exact (show False from hp3).elim
          | bad => rw [lcL_badt eg (by rw [et]; intro _ _ z; cases z)] at hp3; exact (show False from hp3).elim
          | ok k w3 =>
            intro b H4 ph4 x4 s4 k4 eb
            cases eb
            have L4 := L3.ext x4 s4 k4
            have hC4 := F.stay hC3 (Ext.keep x4 s4) s4.m
            have hp4 := hp3.ext (del_ext (D := D) x4) (del_phs s4)
            cases k with
            | false =>
              rw [lcL_false eg et] at hp4
              obtain ⟨vs, h1', h2', h3'⟩ := L4.acc
              exact ⟨ds, ph4, w3, ⟨L4.env, L4.hand, vs, h1', h2', Nat.le_succ_of_le h3'⟩, hC4, hp4⟩
            | true =>
              refine ⟨addO O D, ρ1, ph4, w3, E3.ext x4 s4, k4, ?_⟩
              cases ee : fe ρ1 w3 with
              | ex => rw [lcL_bade eg et (by rw [ee]; intro _ _ z; cases z)] at hp4; exact (show False from hp4).elim
              | bad => rw [lcL_bade eg et (by rw [ee]; intro _ _ z; cases z)] at hp4; exact (show False from hp4).elim
              | ok d w5 =>
                rw [lcL_true eg et ee] at hp4
                intro v H5 ph5 x5 s5 k5 rv
                have L5 := L4.ext x5 s5 k5
                have hC5 := F.stay hC4 (Ext.keep x5 s5) s5.m
                have hp5 := hp4.ext (del_ext (D := D) x5) (del_phs s5)
                obtain ⟨vs, h1', h2', h3'⟩ := L5.acc
                refine ⟨vs, h1', by rw [sizeLine_eq]; unfold line at hl; omega, ds ++ [d], ph5, w5, L5.app nd h1' h2' h3' rv, F.stay hC5 addO_upd (fun _ e => e), ?_⟩
                have e9 : delD (upd H5 D (.lst (vs ++ [v]))) D = delD H5 D := by
                  funext b
                  by_cases z : b = D
                  · subst z; rw [delD_same, delD_same]
                  · rw [delD_ne z, delD_ne z, upd_ne z]
                rw [e9]
                have e10 : (fun ys : List FL.D => M.ret (ds ++ d :: ys)) = fun ys => M.ret (ds ++ [d] ++ ys) := by
                  funext ys
                  rw [List.append_assoc]; rfl
                rw [e10] at hp5
                exact hp5
      · rintro H2 ⟨ds, ph2, w2, L, hC2, hp2⟩
        rw [List.drop_length] at hp2
        have hp3 : Post1 X.K c.cm O (relL X.K c.cm O) c.Wx σ ph2 (delD H2 D) (fun vs H1 => ∀ p, H1 p = none → Q (.ref p) (upd H1 p (.lst vs))) (.ok ds w2) := by
          have e : M.bind (lcL g t fe (wipeE ρ (own.map (·.2))) []) (fun ys => M.ret (ds ++ ys)) w2 = .ok ds w2 := by
            show R.ok (ds ++ []) w2 = _
            rw [List.append_nil]
          rw [← e]; exact hp2
        obtain ⟨vs, h1', h2', _⟩ := L.acc
        have nph : ph2 ≠ some D := (L.env.tr D (.inr rfl)).1
        have := hp3 vs (delD H2 D) ph2 .refl .refl (L.hand.keep addO_keep fun p e u z => by rw [delD_ne (fun y => nph (by rw [← y]; exact e))]; exact z) (h2'.keep addO_keep (fun _ e => e) ds vs) D delD_same
        rw [upd_del h1'] at this
        exact this
    · simp only [if_neg hl] at h1; exact h1.no
theorem pnx_lc {elt tg iter : Expr} {ifs : List Expr} {scope : Scope} {own : List (Str × Nat)} {f : IF} {g : GF} {gt : TG} {is : List Nat} {t : TF} {fe : EF} (hc : X.calm = true) (hN : X.N.Nodup) (hi : PIX X c tg iter f) (ok : L2.BlkOk X.N X.env.scope scope own) (his : own.map (·.2) = is)
    (hg : ∀ (s : Shared) (H : Hp) (C : Addr) (cl : List (Str × Addr)) (fp : List Addr), PG (X.blk s H scope (compEnvC scope cl C X.env) fp) tg gt) (hG : TGX X.K c.cm g gt is)
    (ht : ∀ (s : Shared) (H : Hp) (C : Addr) (cl : List (Str × Addr)) (fp : List Addr), L2.PTs (X.blk s H scope (compEnvC scope cl C X.env) fp) ifs (tTX X.K c.cm c.xa noW t))
    (he : ∀ (s : Shared) (H : Hp) (C : Addr) (cl : List (Str × Addr)) (fp : List Addr), PE (X.blk s H scope (compEnvC scope cl C X.env) fp) elt (tX X.K c.cm c.xa noW fe)) (hs : ∀ x, foldedSetIterable iter X.env x = pure x := by intro _; rfl) :
    PNX X c (.ListComp elt [⟨tg, iter, ifs, 0⟩] scope pos) (nLc f is g t fe) :=
  PE.to (L2.pe_lc hc hN hi ok hg ht he hs) (lc_read his hG)
end
end FL

/-! F8: a def by its body; raise, try. -/
namespace FL
open PySem
open L2 (V Hp HO Cx Inv VK XK TE TT TA TS TI TG PE PT PA PS PSs PI PG Ends WX RelV Vals Rd upd upd_same upd_ne ne_of_none EP TP AP OpR R2 CallR FnOk Room Binds)

/-! ### a def -/
section
variable {P : Program} {w : World} {K : PySem.W.Frag} {mg : Str → Option Value} {base : Heap} {cm : Nat → Addr}
theorem vals_get {ds : List D} {n : Nat} {i : Nat} {s : Slot} (e : (vals ds ++ List.replicate n Slot.none)[i]? = some s) : (∃ d, ds[i]? = some d ∧ s = .val d) ∨ s = .none := by
  unfold vals at e
  by_cases h : i < ds.length
  · rw [List.getElem?_append_left (by simpa using h), List.getElem?_map] at e
    rw [List.getElem?_eq_getElem h] at e
    cases e
    exact .inl ⟨_, List.getElem?_eq_getElem h, rfl⟩
  · rw [List.getElem?_append_right (by simp; omega), List.getElem?_replicate] at e
    split at e
    · cases e; exact .inr rfl
    · cases e
theorem own_vals {O : NS} {ds : List D} {n : Nat} {σ : St} {a : Addr} : OwnS O (vals ds ++ List.replicate n Slot.none) σ a → O a := fun h => by
  rcases h with h | ⟨i, xs, e, _⟩
  · exact h
  · rcases vals_get e with ⟨d, _, z⟩ | z <;> cases z
theorem start_sts {H : Hp} {O : NS} {ph : Option Addr} {wd : Wd} {ds : List D} {vs : List V} {N : List Str} (hl : ds.length ≤ N.length) (tr : OTr H O ph) (hand : HandOk K cm H O ph wd) (r : RepL K cm H (OO O ph) ph ds vs) :
    StS K cm none ⟨H, O, ph⟩ (vals ds ++ List.replicate (N.length - ds.length) Slot.none) ph wd (L2.start N vs) H := by
  have l := r.length
  have no : ∀ a, O a → OwnS O (vals ds ++ List.replicate (N.length - ds.length) Slot.none) (L2.start N vs) a := fun _ x => .inl x
  refine ⟨⟨?_, fun i s x e1 e2 => ?_, tr.less fun _ => own_vals⟩, hand.less fun _ => own_vals, .refl, .refl, tr, fun i j p xs ys e => ?_, fun i p xs e => ?_⟩
  · unfold L2.start vals; simp; omega
  · rcases vals_get e1 with ⟨d, ed, es⟩ | es
    · subst es
      obtain ⟨v, ev, rv⟩ := r.get ed
      have hi : i < vs.length := (List.getElem?_eq_some_iff.mp ev).1
      unfold L2.start at e2
      rw [List.getElem?_append_left (by simpa using hi), List.getElem?_map, ev] at e2
      cases e2
      exact ⟨v, rfl, rv.keep (Keep.less (OO.mono fun _ => own_vals)) (fun _ e => e) d v⟩
    · subst es; trivial
  · rcases vals_get e with ⟨d, _, z⟩ | z <;> cases z
  · rcases vals_get e with ⟨d, _, z⟩ | z <;> cases z
theorem fn_ok {x qual : Str} {params : Arguments} {body : List Stmt} {scope : Scope} {dvs : List V} {kws : List (Str × V)} {f : Addr} {fd : FuncData} {N ps : List Str} {k : Nat} {b : SF} (F : L2.FunD K x qual params body scope dvs kws f fd) (S : L2.FnScope N ps scope)
    (hn : ps.length ≤ N.length)
    (hb : ∀ (cdv : Value) (A : Around) (outer : List PySem.Env) (s : Shared) (H : Hp) (E : XK) (q : Sq), Room k (A.deeper (PyProof.Rows.envOfC qual scope s.heap.objs.size f cdv)) →
      PSSX (L2.cxOf (L2.CX P w) P w K mg base N qual scope f cdv A outer s H E) ⟨cm, none, fun cls d _ H' => E cls d H'⟩ q body b) :
    FnOk P w K mg base (L2.CX P w) (k + 1) f fd ps (spX K cm ps.length (callF N.length b)) := by
  refine F.ok S (fun vs H Q E h => h.1) fun cdv A outer s H vs Q E hr h => ?_
  obtain ⟨hl, O, ds, ph, wd, tr, hand, r, post⟩ := h
  refine ⟨_, hb cdv A outer s H E ⟨H, O, ph⟩ hr, vals ds ++ List.replicate (N.length - ds.length) Slot.none, ph, wd, start_sts (by rw [r.length, hl]; exact hn) tr hand r, ?_⟩
  unfold callF at post
  cases e : b (vals ds ++ List.replicate (N.length - ds.length) Slot.none) wd with
  | nx ρ' w' =>
    rw [e] at post
    intro σ' H' ph' s1 k1
    exact post .non H' ph' s1.base s1.phs (s1.hand.less fun _ z => .inl z) (by simp [Rep])
  | rt d w' =>
    rw [e] at post
    intro v H' ph' x1 s1 hk rv
    exact post v H' ph' x1 s1 hk rv
  | ex c ns xs ρ' w' =>
    rw [e] at post
    intro σ' H' ph' dd vs s1 k1 hd l rv
    exact post dd H' ph' vs s1.base s1.phs (s1.hand.less fun _ z => .inl z) hd l (rv.keep (Keep.less (OO.mono fun _ z => .inl z)) (fun _ e => e) xs vs)
  | bk ρ' w' => rw [e] at post; exact (show False from post).elim
  | ct ρ' w' => rw [e] at post; exact (show False from post).elim
  | bad => rw [e] at post; exact (show False from post).elim
end

/-! ### exceptions that keep their arguments -/
section
variable {P : Program} {w : World} {K : PySem.W.Frag} {mg : Str → Option Value} {base : Heap} {cm : Nat → Addr}
/-- an __init__ that stores its arguments under the names ns -/
def spI (K : PySem.W.Frag) (ns : List Str) (m : Nat) : L2.Sp := fun vs H Q _ => vs.length = m ∧ ∃ (a C : Addr) (xs : List V), vs = .ref a :: xs ∧ xs.length = ns.length ∧ L2.OexC K C ∧ H a = some (L2.exo a C none) ∧ (∀ n, n ∈ ns → PySem.W.findIn K (.ref C) n = some none) ∧
  ∀ (dx : Addr) (H2 : Hp), H dx = none → dx ≠ a → H2 dx = some (L2.exd dx (ns.zip xs).reverse) → H2 a = some (L2.exo a C (some dx)) → (∀ b, b ≠ a → b ≠ dx → H2 b = H b) → Q .non H2
section
variable {x qual : Str} {params : Arguments} {scope : Scope} {f : Addr} {fd : FuncData} {N ps : List Str} {n0 n1 n2 n3 f1 f2 f3 : Str} {p1 p2 p3 p4 p5 p6 p7 p8 p9 q1 q2 q3 : Pos}
theorem init1_ok (F : L2.FunD K x qual params [.Assign [.Attribute (.Name n0 p1) f1 p2] (.Name n1 p3) p4] scope [] [] f fd) (S : L2.FnScope [n0, n1] ps scope) (hps : ps.length = 2)
    (v0 : L2.Vis scope n0) (v1 : L2.Vis scope n1) (d0 : (n0 == ("__debug__" : Str)) = false) (d1 : (n1 == ("__debug__" : Str)) = false) (c0 : (n0 == ("__classdict__" : Str)) = false) (c1 : (n1 == ("__classdict__" : Str)) = false)
    (hsw : ∀ env : PySem.Env, swapsWith (.Name n1 p3) (some (.Attribute (.Name n0 p1) f1 p2)) p4.line env = pure false) : FnOk P w K mg base (L2.CX P w) 1 f fd ps (spI K [f1] 2) := by
  refine F.ok S (fun vs H Q E h => by rw [h.1, hps]) fun cdv A outer s H vs Q E hr h => ⟨_, L2.pss_one (L2.ps_ost (L2.pe_var (i := 0) rfl v0 d0 c0) (L2.pe_var (i := 1) rfl v1 d1 c1) (hsw _)), ?_⟩
  obtain ⟨hl, a, C, xs, ev, hx, T, ha, hno, hq⟩ := h
  subst ev
  match xs, hx with
  | [y], _ =>
    refine ⟨y, rfl, .ref a, rfl, a, C, rfl, T, hno f1 (List.mem_cons_self ..), .inl ⟨ha, fun dx hn ne => hq dx _ hn ne ?_ ?_ fun b b1 b2 => ?_⟩⟩
    · rw [upd_ne ne, upd_same]; rfl
    · rw [upd_same]
    · rw [upd_ne b1, upd_ne b2]
theorem init2_ok (F : L2.FunD K x qual params [.Assign [.Attribute (.Name n0 p1) f1 p2] (.Name n1 p3) p4, .Assign [.Attribute (.Name n0 p5) f2 p6] (.Name n2 p7) p8] scope [] [] f fd) (S : L2.FnScope [n0, n1, n2] ps scope) (hps : ps.length = 3)
    (v0 : L2.Vis scope n0) (v1 : L2.Vis scope n1) (v2 : L2.Vis scope n2) (d0 : (n0 == ("__debug__" : Str)) = false) (d1 : (n1 == ("__debug__" : Str)) = false) (d2 : (n2 == ("__debug__" : Str)) = false) (c0 : (n0 == ("__classdict__" : Str)) = false) (c1 : (n1 == ("__classdict__" : Str)) = false) (c2 : (n2 == ("__classdict__" : Str)) = false)
    (hs1 : ∀ env : PySem.Env, swapsWith (.Name n1 p3) (some (.Attribute (.Name n0 p1) f1 p2)) p4.line env = pure false) (hs2 : ∀ env : PySem.Env, swapsWith (.Name n2 p7) (some (.Attribute (.Name n0 p5) f2 p6)) p8.line env = pure false) : FnOk P w K mg base (L2.CX P w) 1 f fd ps (spI K [f1, f2] 3) := by
  refine F.ok S (fun vs H Q E h => by rw [h.1, hps]) fun cdv A outer s H vs Q E hr h => ⟨_, L2.pss_cons (L2.ps_ost (L2.pe_var (i := 0) rfl v0 d0 c0) (L2.pe_var (i := 1) rfl v1 d1 c1) (hs1 _)) (L2.pss_one (L2.ps_ost (L2.pe_var (i := 0) rfl v0 d0 c0) (L2.pe_var (i := 2) rfl v2 d2 c2) (hs2 _))), ?_⟩
  obtain ⟨hl, a, C, xs, ev, hx, T, ha, hno, hq⟩ := h
  subst ev
  match xs, hx with
  | [y, z], _ =>
    refine ⟨y, rfl, .ref a, rfl, a, C, rfl, T, hno f1 (List.mem_cons_self ..), .inl ⟨ha, fun dx hn ne => ?_⟩⟩
    refine ⟨z, rfl, .ref a, rfl, a, C, rfl, T, hno f2 (List.mem_cons_of_mem _ (List.mem_cons_self ..)), .inr ⟨dx, [(f1, y)], upd_same, by rw [upd_ne ne, upd_same], by simp, hq dx _ hn ne ?_ ?_ fun b b1 b2 => ?_⟩⟩
    · rw [upd_same]; rfl
    · rw [upd_ne (Ne.symm ne), upd_same]
    · rw [upd_ne b2, upd_ne b1, upd_ne b2]
end
/-- what one knows of an own exception class -/
structure ExcK (K : PySem.W.Frag) (mg : Str → Option Value) (base : Heap) (P : Program) (w : World) (x : Str) (C fI : Addr) (fd : FuncData) (ps : List Str) (ns : List Str) : Prop where
  T : L2.OexC K C
  iC : PySem.W.findIn K (.ref C) "__init__" = some (some (.ref fI))
  tI : PySem.W.typeIn K (.ref fI) = some (.type "function")
  F : FnOk P w K mg base (L2.CX P w) 1 fI fd ps (spI K ns (ns.length + 1))
  hb : Binds K fd ps []
  hm : mg x = some (.ref C)
  hno : ∀ n, n ∈ ns → PySem.W.findIn K (.ref C) n = some none
end
section
variable {X : Cx} {c : Cfg} {q : Sq} {pos : Pos} {e : Expr} {fe : EF} {st : Stmt} {sts : List Stmt} {s t : SF}
theorem evs_run2 {K : PySem.W.Frag} {cm : Nat → Addr} {xa : Option (Addr × Nat × Addr)} {Wx : WX} {q : Sq} {ρ : Env} {σ : St} {ph : Option Addr} {H : Hp} {w : Wd} {D : Ends} {fs : List EF} {k : List FL.D → Wd → SR} (h : StS K cm xa q ρ ph w σ H) (hp : Post2 K cm xa q Wx D H (NN q ρ σ ph) ph (onE (evs fs ρ) ρ w k)) :
    Run K cm xa (OwnS q.O0 ρ σ) (relL K cm (OwnS q.O0 ρ σ)) Wx ρ σ ph H w (evs fs ρ) (fun vs H1 => ∃ ds ph1 w1, ds.length = fs.length ∧ RepL K cm H1 (NN q ρ σ ph1) ph1 ds vs ∧ StS K cm xa q ρ ph1 w1 σ H1 ∧ Kp H (NN q ρ σ ph) ph H1 (NN q ρ σ ph1) ph1 ∧ Post2 K cm xa q Wx D H1 (NN q ρ σ ph1) ph1 (k ds w1)) := by
  refine ⟨h.env, h.hand, ?_⟩
  unfold onE at hp
  cases e : evs fs ρ w with
  | ok ds w1 =>
    rw [e] at hp
    intro vs H1 ph1 x s hk r
    have kk : Kp H (NN q ρ σ ph) ph H1 (NN q ρ σ ph1) ph1 := ⟨Ext.keep x s, s.m⟩
    exact ⟨ds, ph1, w1, evs_len _ _ _ _ e, r, h.ext x s hk, kk, hp.keep kk⟩
  | ex c ns xs w1 =>
    rw [e] at hp
    intro dd H1 ph1 vs x s hk hd l r
    exact hp σ H1 ph1 dd vs (h.ext x s hk) ⟨Ext.keep x s, s.m⟩ hd l r
  | bad => rw [e] at hp; exact hp
theorem psx_raise {x : Str} {p pos' : Pos} {es : List Expr} {fs : List EF} {C fI : Addr} {fd : FuncData} {ps ns : List Str} (k : Nat) (G : ExcK X.K X.mg X.base X.prog X.w x C fI fd ps ns) (hC : c.cm k = C) (hc : X.calm = true) (tk : L2.Takes X c.Wx) (hr : Room 2 X.A) (hg : L2.Gl X x)
    (ha : PAX X c (e :: es) fs) (hn : fs.length = ns.length := by rfl) (hl : ns.length ≤ 1000 := by decide) (hdb : (x == ("__debug__" : Str)) = false := by decide) (he : starEach (e :: es) X.env = (false, eval e X.env) :: starEach es X.env := by rfl) (hpl : (backTo pos (starEach es X.env)).any (·.1) = false := by rfl) :
    PSX X c q (.Raise (some (.Call (.Name x p) (e :: es) [] pos)) none pos') (sRaise k ns fs) := by
  refine PS.to (L2.ps_raise hc tk (L2.pmk_oex G.T G.iC G.tI G.F hr G.hb .nil L2.passL hg G.hm ha hdb he hpl)) fun D σ H ⟨ρ, ph, w, h, hp⟩ => ?_
  refine ⟨_, ρ, ph, w, (evs_run2 h hp).imp fun vs H1 ⟨ds, ph1, w1, l, r, h1, k1, hp1⟩ => ?_⟩
  have lv : vs.length = ns.length := by rw [← r.length, l, hn]
  refine ⟨by omega, fun a hna => ⟨by simp [lv], a, C, vs, by simp, lv, G.T, upd_same, G.hno, fun dx H2 hdx ne e1 e2 e3 => ⟨rfl, dx, (ns.zip vs).reverse, e2, e1, ?_, ?_⟩⟩⟩
  · rw [upd_ne ne] at hdx; exact hdx
  · have hdx' : H1 dx = none := by rw [upd_ne ne] at hdx; exact hdx
    have eH : upd (L2.del H2 a) dx (.xd (ns.zip vs).reverse) = upd H1 dx (.xd (ns.zip vs).reverse) := by
      funext b
      by_cases b2 : b = dx
      · subst b2; rw [upd_same, upd_same]
      · rw [upd_ne b2, upd_ne b2]
        by_cases b1 : b = a
        · subst b1; rw [L2.del_same, hna]
        · rw [L2.del_ne b1, e3 b b1 b2, upd_ne b1]
    rw [eH, ← hC]
    have k2 : Keep H1 (NN q ρ σ ph1) (upd H1 dx (.xd (ns.zip vs).reverse)) (NN q ρ σ ph1) := Ext.keep (ext_new hdx') .refl
    exact hp1 σ _ ph1 dx vs (h1.ext (ext_new hdx') .refl (h1.hand.new hdx')) k2.kp upd_same lv.symm (r.keep k2 (fun _ e => e) ds vs)
end
end FL

/-! F9: try, the fields of a caught error, calls with keywords. -/
namespace FL
open PySem
open L2 (V Hp HO Cx Inv VK XK TE TT TA TS TI TG PE PT PA PS PSs PI PG Ends WX RelV Vals Rd upd upd_same upd_ne ne_of_none EP TP AP OpR R2 CallR FnOk Room Binds)

section
variable {K : PySem.W.Frag} {cm : Nat → Addr} {xa xb : Option (Addr × Nat × Addr)} {q : Sq} {ρ ρ' : Env} {σ : St} {H H' : Hp} {N N1 : NS} {ph ph' : Option Addr} {w w' : Wd} {Wx : WX} {D : Ends} {O : NS}
theorem SlotR.free {s : Slot} {x : Option V} (h : SlotR K cm none O H ph s x) : SlotR K cm xb O H ph s x := by
  cases s with
  | none => trivial
  | val d => exact h
  | own ds => exact h
  | exc c ns ds => obtain ⟨a, dd, vs, _, z, _⟩ := h; cases z
theorem StS.free (h : StS K cm none q ρ ph w σ H) : StS K cm xb q ρ ph w σ H :=
  ⟨⟨h.env.len, fun i s x e1 e2 => (h.env.at_ i s x e1 e2).free, h.env.tr⟩, h.hand, h.base, h.phs, h.o0, h.inj, h.fresh⟩
theorem StS.xd_new {a dd : Addr} {o : List (Str × V)} (h : StS K cm xa q ρ ph w σ H) (e : H dd = some (.xd o)) : ¬ NN q ρ σ ph dd := fun z => by
  rcases z with z | z
  · obtain ⟨_, vs, y⟩ := h.env.tr dd z
    rw [e] at y; cases y
  · obtain ⟨vs, y⟩ := h.hand.tr z
    rw [e] at y; cases y
/-- the caught error, in slot i -/
theorem StS.exc {i c : Nat} {ns : List Str} {xs : List FL.D} {a dd : Addr} {vs : List V} (h : StS K cm none q ρ ph w σ H) (e : H dd = some (.xd (ns.zip vs).reverse)) (l : ns.length = vs.length) (r : RepL K cm H (NN q ρ σ ph) ph xs vs) :
    StS K cm (some (a, c, dd)) q (ρ.set i (.exc c ns xs)) ph w (σ.set i (some (.ref a))) H :=
  StS.setv (fun _ z => by cases z) ⟨a, dd, vs, rfl, rfl, h.xd_new (a := a) e, e, l, r⟩ h.free
theorem own_wipe {a : Addr} : OwnS q.O0 (wipeX ρ) σ a → OwnS q.O0 ρ σ a := fun z => by
  rcases z with z | ⟨i, xs, e1, e2⟩
  · exact .inl z
  · unfold wipeX at e1
    rw [List.getElem?_map] at e1
    cases e : ρ[i]? with
    | none => rw [e] at e1; cases e1
    | some s =>
      rw [e] at e1
      cases s with
      | own ys => exact .inr ⟨i, ys, e, e2⟩
      | none => cases e1
      | val d => cases e1
      | exc c ns ds => cases e1
theorem wipe_own {i : Nat} {xs : List FL.D} (e1 : (wipeX ρ)[i]? = some (.own xs)) : ρ[i]? = some (.own xs) := by
  unfold wipeX at e1
  rw [List.getElem?_map] at e1
  cases e : ρ[i]? with
  | none => rw [e] at e1; cases e1
  | some s =>
    rw [e] at e1
    cases s with
    | own ys => cases e1; rfl
    | none => cases e1
    | val d => cases e1
    | exc c ns ds => cases e1
theorem own_wipe2 {a : Addr} : OwnS q.O0 ρ σ a → OwnS q.O0 (wipeX ρ) σ a := fun z => by
  rcases z with z | ⟨i, xs, e1, e2⟩
  · exact .inl z
  · exact .inr ⟨i, xs, by unfold wipeX; rw [List.getElem?_map, e1]; rfl, e2⟩
theorem StS.wipe (h : StS K cm xa q ρ ph w σ H) : StS K cm none q (wipeX ρ) ph w σ H := by
  have kk : Keep H (NN q ρ σ ph) H (NN q (wipeX ρ) σ ph) := Keep.less (OO.mono fun _ => own_wipe)
  refine ⟨⟨by unfold wipeX; simp [h.env.len], fun i s x e1 e2 => ?_, h.env.tr.less fun _ => own_wipe⟩, h.hand.less fun _ => own_wipe, h.base, h.phs, h.o0, fun i j p xs ys e1 e2 => h.inj i j p xs ys (wipe_own e1) (wipe_own e2), fun i p xs e1 => h.fresh i p xs (wipe_own e1)⟩
  unfold wipeX at e1
  rw [List.getElem?_map] at e1
  cases e : ρ[i]? with
  | none => rw [e] at e1; cases e1
  | some t =>
    rw [e] at e1
    have hh := h.env.at_ i t x e e2
    cases t with
    | none => cases e1; trivial
    | val d => cases e1; exact SlotR.keep (s := .val d) kk (fun _ e => e) (fun _ _ z => by cases z) hh
    | own ds =>
      cases e1
      exact SlotR.keep (s := .own ds) kk (fun _ e => e) (fun ds' p z ex o => ⟨own_wipe2 o, fun _ y => y⟩) hh
    | exc c ns ds => cases e1; trivial
theorem keep_wipe : Keep H (NN q ρ σ ph) H (NN q (wipeX ρ) σ ph) := Keep.less (OO.mono fun _ => own_wipe)
end

section
variable {X : Cx} {c : Cfg} {q : Sq} {pos : Pos} {e : Expr} {fe : EF} {st : Stmt} {sts : List Stmt} {s t : SF}
/-- the suite's reading -/
def tSu (K : PySem.W.Frag) (cm : Nat → Addr) (q : Sq) (cs : List Nat) (s : SF) (a : Addr) (cls : Value) (d : Option Addr) : TS := fun D σ H => ∃ k dd, k ∈ cs ∧ cls = .ref (cm k) ∧ d = some dd ∧ tS K cm (some (a, k, dd)) q noW s D σ H
theorem psx_try {x n : Str} {np pos' : Pos} {i : Nat} {body suite : List Stmt} {b0 : Stmt} {C : Addr} {sb su : SF} (cs ks : List Nat) (hxa : c.xa = none) (hs : X.stack = X.env :: X.outer) (hf : X.env.frame = some X.env.locals) (hN : X.N.Nodup) (hi : X.N[i]? = some n) (hln : X.env.kindOf n = some .local)
    (hc : L2.Names X x (.ref C)) (tk : L2.Takes X c.Wx)
    (yes : ∀ k, k ∈ cs → PySem.W.exmOne X.K (.ref (c.cm k)) (.ref C) = some true) (no : ∀ k, k ∈ ks → PySem.W.exmOne X.K (.ref (c.cm k)) (.ref C) = some false)
    (hb : ∀ (W : WX) (pn : List (Addr × Obj)) (xe : Value → Shared → Prop), L2.Takes (X.tr pn xe) W → PassesOwn (model X.prog X.w) X.A X.env xe → PSSX (X.tr pn xe) ⟨c.cm, none, W⟩ q body sb)
    (hsu : ∀ (a : Addr) (oe : Obj) (k : Nat) (dd : Addr) (pn : List (Addr × Obj)), k ∈ cs → L2.Zc (.ref (c.cm k)) (some dd) oe → (∃ vs, oe.data = .fields vs) → PSSX (X.suite a ((a, oe) :: pn)) ⟨c.cm, some (a, k, dd), noW⟩ q (b0 :: suite) su) :
    PSX X c q (.Try body [.ExceptHandler (some (.Name x np)) (some n) (b0 :: suite) pos'] [] [] pos) (sTry sb cs ks i su) := by
  refine PS.to (L2.ps_try_as (tb := fun W => tS X.K c.cm none q W sb) (ts := fun a cls d => tSu X.K c.cm q cs su a cls d) (Wout := c.Wx) hs hf hN hi hln hc tk hb fun a oe cls d pn hz hv => ?_) fun D σ H ⟨ρ, ph, w, h, hp⟩ => ?_
  · refine ⟨fun pins s σ H D I hh => ?_⟩
    obtain ⟨k, dd, hk, rfl, rfl, hh⟩ := hh
    exact (hsu a oe k dd pn hk hz hv).run pins s σ H D I hh
  · rw [hxa] at h hp
    refine ⟨ρ, ph, w, h, ?_⟩
    unfold sTry at hp
    cases er : sb ρ w with
    | nx ρ' w' => rw [er] at hp; exact hp
    | rt d w' => rw [er] at hp; exact hp
    | bk ρ' w' => rw [er] at hp; exact hp
    | ct ρ' w' => rw [er] at hp; exact hp
    | bad => rw [er] at hp; exact hp
    | ex c0 ns xs ρ' w' =>
      rw [er] at hp
      intro σ' H' ph' dd vs h1 k1 hd l r
      simp only at hp
      by_cases hm : c0 ∈ cs
      · rw [if_pos hm] at hp
        refine ⟨true, yes c0 hm, fun _ a ha => ⟨c0, dd, hm, rfl, rfl, ρ'.set i (.exc c0 ns xs), ph', w', h1.exc hd l r, ?_⟩, fun z => Bool.noConfusion z⟩
        have kx : Kp H (NN q ρ σ ph) ph H' (NN q (ρ'.set i (.exc c0 ns xs)) (σ'.set i (some (.ref a))) ph') ph' := k1.trans (keep_set fun _ z => by cases z).kp
        have back : ∀ (ρ2 : Env) (σ2 : St) (H2 : Hp) (ph2 : Option Addr) (w2 : Wd), StS X.K c.cm (some (a, c0, dd)) q ρ2 ph2 w2 σ2 H2 → Kp H' (NN q (ρ'.set i (.exc c0 ns xs)) (σ'.set i (some (.ref a))) ph') ph' H2 (NN q ρ2 σ2 ph2) ph2 →
            StS X.K c.cm none q (wipeX (ρ2.set i .none)) ph2 w2 (σ2.set i none) H2 ∧ Kp H (NN q ρ σ ph) ph H2 (NN q (wipeX (ρ2.set i .none)) (σ2.set i none) ph2) ph2 := fun ρ2 σ2 H2 ph2 w2 s2 k2 =>
          ⟨(StS.setv (s := .none) (x := none) (fun _ z => by cases z) trivial s2).wipe, kx.trans (k2.trans ((keep_set (s := .none) fun _ z => by cases z).kp.trans keep_wipe.kp))⟩
        unfold suiteK at hp
        cases e2 : su (ρ'.set i (.exc c0 ns xs)) w' with
        | nx ρ2 w2 =>
          rw [e2] at hp
          intro σ2 H2 ph2 s2 k2
          obtain ⟨s3, k3⟩ := back ρ2 σ2 H2 ph2 w2 s2 k2
          exact hp _ H2 ph2 s3 k3
        | bk ρ2 w2 =>
          rw [e2] at hp
          intro σ2 H2 ph2 s2 k2
          obtain ⟨s3, k3⟩ := back ρ2 σ2 H2 ph2 w2 s2 k2
          exact hp _ H2 ph2 s3 k3
        | ct ρ2 w2 =>
          rw [e2] at hp
          intro σ2 H2 ph2 s2 k2
          obtain ⟨s3, k3⟩ := back ρ2 σ2 H2 ph2 w2 s2 k2
          exact hp _ H2 ph2 s3 k3
        | rt d w2 => rw [e2] at hp; exact hp
        | ex c2 ns2 xs2 ρ2 w2 => rw [e2] at hp; exact (show False from hp).elim
        | bad => rw [e2] at hp; exact (show False from hp).elim
      · rw [if_neg hm] at hp
        by_cases hm2 : c0 ∈ ks
        · rw [if_pos hm2] at hp
          exact ⟨false, no c0 hm2, fun z => Bool.noConfusion z, fun _ => hp σ' H' ph' dd vs h1 k1 hd l r⟩
        · rw [if_neg hm2] at hp
          exact (show False from hp).elim

/-! a field of the caught error -/
theorem look_rep {K : PySem.W.Frag} {cm : Nat → Addr} {H : Hp} {N : NS} {ph : Option Addr} {f : Str} : ∀ {ns : List Str} {xs : List FL.D} {vs : List V} {d : FL.D} {rest : List (Str × V)}, RepL K cm H N ph xs vs → fldOf f ns xs = some d → ∃ v, ((ns.zip vs).reverse ++ rest).lookup f = some v ∧ Rep K cm H N ph d v
  | [], _, _, _, _, _, e => by simp [fldOf] at e
  | n :: ns, [], _, _, _, _, e => by simp [fldOf] at e
  | n :: ns, x :: xs, vs, d, rest, r, e => by
    obtain ⟨v, vs', rfl, r1, r2⟩ := r.uncons
    simp only [List.zip_cons_cons, List.reverse_cons, List.append_assoc, List.cons_append, List.nil_append]
    rw [fldOf] at e
    cases e2 : fldOf f ns xs with
    | some d' =>
      rw [e2] at e
      cases e
      exact look_rep r2 e2
    | none =>
      rw [e2] at e
      simp only at e
      by_cases hn : n = f
      · rw [if_pos hn] at e
        cases e
        have key : ∀ (ns : List Str) (xs : List FL.D) (vs : List V), RepL K cm H N ph xs vs → fldOf f ns xs = none → ∀ rest : List (Str × V), ((ns.zip vs).reverse ++ rest).lookup f = rest.lookup f := by
          intro ns
          induction ns with
          | nil => intro xs vs _ _ rest; simp
          | cons m ms ih =>
            intro xs vs r e rest
            cases xs with
            | nil => cases r.unnil; simp
            | cons y ys =>
              obtain ⟨u, us, rfl, q1, q2⟩ := r.uncons
              simp only [List.zip_cons_cons, List.reverse_cons, List.append_assoc, List.cons_append, List.nil_append]
              rw [fldOf] at e
              cases e3 : fldOf f ms ys with
              | some d' => rw [e3] at e; simp at e
              | none =>
                rw [e3] at e
                simp only at e
                rw [ih ys us q2 e3]
                by_cases hm : m = f
                · rw [if_pos hm] at e; cases e
                · have : (f == m) = false := by simpa using fun z => hm z.symm
                  simp [List.lookup, this]
        rw [key ns xs vs' r2 e2]
        subst hn
        exact ⟨v, by simp [List.lookup], r1⟩
      · rw [if_neg hn] at e; cases e
theorem px_xf {a : Addr} {oe : Obj} {k : Nat} {dd : Addr} {pn : List (Addr × Obj)} {i : Nat} {x f : Str} {p : Pos} {Wx : WX} {cm : Nat → Addr} (T : L2.XfC X.K (cm k)) (hno : PySem.W.findIn X.K (.ref (cm k)) f = some none) (hz : L2.Zc (.ref (cm k)) (some dd) oe) (hf : ∃ vs, oe.data = .fields vs)
    (hN : X.N[i]? = some x := by rfl) (hv : L2.Vis X.env.scope x := by first | exact Or.inl rfl | exact Or.inr (Or.inl rfl) | exact Or.inr (Or.inr rfl)) (hd : (x == ("__debug__" : Str)) = false := by decide) (hcd : (x == ("__classdict__" : Str)) = false := by decide)
    (hb : attributeBase (.Name x p) f X.env (eval (.Name x p) X.env) = eval (.Name x p) X.env := by rfl) : PX (X.suite a ((a, oe) :: pn)) ⟨cm, some (a, k, dd), Wx⟩ (.Attribute (.Name x p) f pos) (eXf i f) := by
  refine PE.to (L2.pe_xf T hno hz hf (L2.pe_var (X := X.suite a ((a, oe) :: pn)) (i := i) hN hv hd hcd) hb) fun σ H Q ⟨O, ρ, ph, w, h⟩ => ?_
  have he := h.env
  unfold eXf at h
  cases e : ρ[i]? with
  | none => rw [e] at h; exact h.no
  | some s =>
    rw [e] at h
    cases s with
    | exc c0 ns xs =>
      obtain ⟨a', dd', vs, e1, e2, e3, l, r⟩ := he.excd e
      cases e2
      simp only at h
      cases ef : fldOf f ns xs with
      | none => rw [ef] at h; exact h.no
      | some d =>
        rw [ef] at h
        obtain ⟨v, e4, r4⟩ := look_rep (rest := []) r ef
        rw [List.append_nil] at e4
        exact ⟨.ref a, e1, rfl, rfl, dd, _, v, rfl, e3, e4, h.ret r4⟩
    | _ => exact h.no
end
end FL

/-! F10: defs as the module holds them. -/
namespace FL
open PySem
open L2 (V Hp HO Cx Inv VK XK TE TT TA TS TI TG PE PT PA PS PSs PI PG Ends WX RelV Vals Rd upd upd_same upd_ne ne_of_none EP TP AP OpR R2 CallR FnOk Room Binds)
section
variable {K : PySem.W.Frag} {mg : Str → Option Value} {h : Heap}
/-- the module's name x is the def of the statement st; dvs: its defaults -/
structure DefAt (K : PySem.W.Frag) (mg : Str → Option Value) (x : Str) (st : Stmt) (dvs : List V) (f : Addr) (fd : FuncData) : Prop where
  m : mg x = some (.ref f)
  F : L2.FunD K x x (L2.defArgs st) (L2.defBody st) (L2.defScope st) dvs [] f fd
theorem def_at {x : Str} {st : Stmt} {f : Addr} {oc kV doc pm cdv ct : Value} {od an : Option Addr} {osl : Array (Option Value)} (X : K.In h) (G : h.Ns mainGlobals mg) (a : PySem.W.nsIn K mainGlobals x = some (some (.ref f)))
    (l : K.lookup f = some ⟨oc, od, .func (PySem.W.fnOf x x (L2.defArgs st) (L2.defBody st) (L2.defScope st) .none kV doc pm an cdv ct), osl⟩) (c : PySem.W.codeIn K cdv x = true) (k : PySem.W.keepIn K (.ref f) = true) : ∃ fd, DefAt K mg x st [] f fd :=
  ⟨_, PySem.W.mg_of X G a, ⟨⟨oc, od, .none, kV, doc, pm, an, cdv, ct, osl, rfl, l, c, .inl ⟨rfl, rfl⟩, .inl rfl⟩, k⟩⟩
theorem def_atD {x : Str} {st : Stmt} {f T : Addr} {oc kV doc pm cdv ct : Value} {od an : Option Addr} {osl : Array (Option Value)} {o : Obj} {its : List Value} {n : Nat} {dvs : List V} (X : K.In h) (G : h.Ns mainGlobals mg) (a : PySem.W.nsIn K mainGlobals x = some (some (.ref f)))
    (l : K.lookup f = some ⟨oc, od, .func (PySem.W.fnOf x x (L2.defArgs st) (L2.defBody st) (L2.defScope st) (.ref T) kV doc pm an cdv ct), osl⟩) (c : PySem.W.codeIn K cdv x = true) (k : PySem.W.keepIn K (.ref f) = true)
    (lT : K.lookup T = some o) (dT : o.data = .seq its.toArray n) (v : Vals dvs its) (ne : dvs ≠ []) : ∃ fd, DefAt K mg x st dvs f fd :=
  ⟨_, PySem.W.mg_of X G a, ⟨⟨oc, od, .ref T, kV, doc, pm, an, cdv, ct, osl, rfl, l, c, .inr ⟨ne, T, o, its, n, rfl, lT, dT, v⟩, .inl rfl⟩, k⟩⟩
end
end FL

/-! F11: words for the printed derivations; the end of a law. -/
namespace FL
open PySem
open L2 (V Hp HO Cx Inv VK XK TE TT TA TS TI TG PE PT PA PS PSs PI PG Ends WX RelV Vals Rd upd upd_same upd_ne ne_of_none EP TP AP OpR R2 CallR FnOk Room Binds)

theorem hu64 {k : Nat} {A : Around} (r : Room k A) : A.units + 64 < cLine := by have := r.un; omega
theorem hu65 {k : Nat} {A : Around} (r : Room k A) : A.units + 65 < cLine := by have := r.un; omega
theorem bt_len : bootBuiltins "len" = some (.builtin "len") := by decide +kernel
theorem bt_abs : bootBuiltins "abs" = some (.builtin "abs") := by decide +kernel
theorem bt_int : bootBuiltins "int" = some (.type "int") := by decide +kernel
theorem bt_str : bootBuiltins "str" = some (.type "str") := by decide +kernel
theorem bt_bool : bootBuiltins "bool" = some (.type "bool") := by decide +kernel
theorem bt_tuple : bootBuiltins "tuple" = some (.type "tuple") := by decide +kernel
theorem bt_list : bootBuiltins "list" = some (.type "list") := by decide +kernel
theorem bt_dict : bootBuiltins "dict" = some (.type "dict") := by decide +kernel

section
variable {P : Program} {w : World} {K : PySem.W.Frag} {mg : Str → Option Value} {base : Heap} {cm : Nat → Addr}
/-- how a call's values are put into the parameters' places: the positional ones, the defaults, the keywords' -/
inductive Src where
  | p (i : Nat) | d (i : Nat) | k (i : Nat)
def pick {α : Type} (us its ws : List α) : List Src → List α
  | [] => []
  | .p i :: r => us[i]?.toList ++ pick us its ws r
  | .d i :: r => its[i]?.toList ++ pick us its ws r
  | .k i :: r => ws[i]?.toList ++ pick us its ws r
def HeldFn (K : PySem.W.Frag) (f : Addr) (fd : FuncData) : Prop := ∃ oc od osl, K.lookup f = some ⟨oc, od, .func fd, osl⟩
theorem HeldFn.one {f : Addr} {fd fd' : FuncData} (a : HeldFn K f fd) (b : HeldFn K f fd') : fd = fd' := by
  obtain ⟨_, _, _, e⟩ := a
  obtain ⟨_, _, _, e'⟩ := b
  rw [e] at e'
  cases e'
  rfl
theorem held_of {x qual : Str} {params : Arguments} {body : List Stmt} {scope : Scope} {dvs : List V} {kws : List (Str × V)} {f : Addr} {fd : FuncData} (F : L2.FunD K x qual params body scope dvs kws f fd) : HeldFn K f fd := by
  obtain ⟨a1, a2, a3, a4, a5, a6, a7, a8, a9, b1, efd, b3, _⟩ := F.ex
  exact ⟨_, _, _, b3⟩
theorem lk_of {x : Str} {f : Addr} {fd : FuncData} {k : Nat} {ps : List Str} {sp : L2.Sp} (hm : mg x = some (.ref f)) (hf : HeldFn K f fd) (G : FnOk P w K mg base (L2.CX P w) k f fd ps sp) : ∀ f, mg x = some (.ref f) → ∀ fd, HeldFn K f fd → FnOk P w K mg base (L2.CX P w) k f fd ps sp := fun f' h fd' h' => by
  rw [hm] at h
  cases h
  rw [← HeldFn.one hf h']
  exact G
/-- the def x: its promise, and what fills its parameters up (bs: the tails of defaults) -/
structure Has (P : Program) (w : World) (K : PySem.W.Frag) (mg : Str → Option Value) (base : Heap) (cm : Nat → Addr) (x : Str) (lvl : Nat) (ps : List Str) (bs : List (List D)) (ksb : List (Nat × List Str × List Src × List D)) (n : Nat) (F : List D → M D) : Prop where
  ex : ∃ f fd, mg x = some (.ref f) ∧ PySem.W.keepIn K (.ref f) = true ∧ FnOk P w K mg base (L2.CX P w) lvl f fd ps (spX K cm n F) ∧ (∀ dds, dds ∈ bs → ∃ ds dvs, Binds K fd ps ds ∧ Vals dvs ds ∧ ∀ {H N ph}, RepL K cm H N ph dds dvs) ∧
    ∀ e, e ∈ ksb → ∃ (its : List Value) (dvs : List V), Vals dvs its ∧ (∀ {H N ph}, RepL K cm H N ph e.2.2.2 dvs) ∧ L2.KBn K fd ps e.1 e.2.1 (fun us ws => pick us its ws e.2.2.1) (fun us ws => pick us dvs ws e.2.2.1)
  lk : ∀ f, mg x = some (.ref f) → ∀ fd, HeldFn K f fd → FnOk P w K mg base (L2.CX P w) lvl f fd ps (spX K cm n F)
theorem pick_rel {us : List V} {us' : List Value} {its : List V} {its' : List Value} {ws : List V} {ws' : List Value} (h1 : Vals us us') (h2 : Vals its its') (h3 : Vals ws ws') : ∀ l, Vals (pick us its ws l) (pick us' its' ws' l) := by
  have key : ∀ {xs : List V} {ys : List Value} (h : Vals xs ys) (i : Nat), Vals xs[i]?.toList ys[i]?.toList := by
    intro xs ys h
    induction h with
    | nil => intro i; exact .nil
    | cons r _ ih => intro i; cases i with
      | zero => exact .cons r .nil
      | succ i => exact ih i
  intro l
  induction l with
  | nil => exact .nil
  | cons s r ih => cases s with
    | p i => exact (key h1 i).append ih
    | d i => exact (key h2 i).append ih
    | k i => exact (key h3 i).append ih
theorem pick_rep {H : Hp} {N : NS} {ph : Option Addr} {us its ws : List D} {us' its' ws' : List V} (h1 : RepL K cm H N ph us us') (h2 : RepL K cm H N ph its its') (h3 : RepL K cm H N ph ws ws') : ∀ l, RepL K cm H N ph (pick us its ws l) (pick us' its' ws' l) := by
  have key : ∀ {xs : List D} {ys : List V} (h : RepL K cm H N ph xs ys) (i : Nat), RepL K cm H N ph xs[i]?.toList ys[i]?.toList := by
    intro xs
    induction xs with
    | nil => intro ys h i; cases h.unnil; exact RepL.nil
    | cons x xs ih =>
      intro ys h i
      obtain ⟨v, r, rfl, h1, h2⟩ := h.uncons
      cases i with
      | zero => exact RepL.one h1
      | succ i => exact ih h2 i
  intro l
  induction l with
  | nil => exact RepL.nil
  | cons s r ih => cases s with
    | p i => exact (key h1 i).append ih
    | d i => exact (key h2 i).append ih
    | k i => exact (key h3 i).append ih
theorem fnok_no {k : Nat} {f : Addr} {fd : FuncData} {ps : List Str} : FnOk P w K mg base (L2.CX P w) k f fd ps (spX K cm ps.length fun _ => M.fail) :=
  ⟨fun _ _ _ _ h => h.1, fun A outer s H args us vs Q E _ _ _ _ ⟨_, _, _, _, _, _, _, _, h⟩ => (show False from h).elim⟩
/-- the printed def, without defaults -/
theorem has_of {x : Str} {st : Stmt} {N ps : List Str} {k m n : Nat} {b : SF} (hd : ∃ f fd, DefAt K mg x st [] f fd) (S : L2.FnScope N ps (L2.defScope st)) (hps : ps.length = m) (hN : N.length = n) (hmn : m ≤ n)
    (hb : ∀ (kV doc pm : Value) (an : Option Addr) (cdv ct : Value) (us : List Value), us.length = ps.length → bindArgs (PySem.W.fnOf x x (L2.defArgs st) (L2.defBody st) (L2.defScope st) .none kV doc pm an cdv ct) ⟨us, []⟩ = pure (ps.zip us))
    (body : ∀ (f : Addr) (cdv : Value) (A : Around) (outer : List PySem.Env) (s : Shared) (H : Hp) (E : XK) (q : Sq), Room k (A.deeper (PyProof.Rows.envOfC x (L2.defScope st) s.heap.objs.size f cdv)) →
      PSSX (L2.cxOf (L2.CX P w) P w K mg base N x (L2.defScope st) f cdv A outer s H E) ⟨cm, none, fun cls d _ H' => E cls d H'⟩ q (L2.defBody st) b) :
    Has P w K mg base cm x (k + 1) ps [[]] [] m (callF n b) := by
  obtain ⟨f, fd, hm, F⟩ := hd
  subst hps hN
  have G := fn_ok F S hmn fun cdv A outer s H E q hr => body f cdv A outer s H E q hr
  exact ⟨⟨f, fd, hm, F.kp, G, fun dds hm => by
    rw [List.mem_singleton.mp hm]
    exact ⟨[], [], F.bindsN hb, .nil, RepL.nil⟩, fun e he => by cases he⟩, lk_of hm (held_of F) G⟩
/-- .. with defaults -/
theorem has_ofD {x : Str} {st : Stmt} {N ps : List Str} {dvs : List V} {dds : List D} {bs : List (List D)} {ksb : List (Nat × List Str × List Src × List D)} {k m n : Nat} {b : SF} (hd : ∃ f fd, DefAt K mg x st dvs f fd) (S : L2.FnScope N ps (L2.defScope st)) (hps : ps.length = m) (hN : N.length = n) (hmn : m ≤ n) (ne : dvs ≠ [])
    (hdd : ∀ {H N ph}, RepL K cm H N ph dds dvs)
    (hb : ∀ e, e ∈ bs → ∃ (p j : Nat), e = dds.drop j ∧ p + (dvs.length - j) = ps.length ∧ ∀ (T : Addr) (kV doc pm : Value) (an : Option Addr) (cdv ct : Value) (us its : List Value), us.length = p → its.length = dvs.length →
      ∃ r, bindArgs (PySem.W.fnOf x x (L2.defArgs st) (L2.defBody st) (L2.defScope st) (.ref T) kV doc pm an cdv ct) ⟨us, []⟩ = seqItems? (.ref T) >>= r ∧ r (some its.toArray) = pure (ps.zip (us ++ its.drop j)))
    (hkb : ∀ e, e ∈ ksb → e.2.2.2 = dds ∧ ∀ (T : Addr) (kV doc pm : Value) (an : Option Addr) (cdv ct : Value) (us its ws : List Value), us.length = e.1 → its.length = dvs.length → ws.length = e.2.1.length →
      ∃ r, bindArgs (PySem.W.fnOf x x (L2.defArgs st) (L2.defBody st) (L2.defScope st) (.ref T) kV doc pm an cdv ct) ⟨us, e.2.1.zip ws⟩ = seqItems? (.ref T) >>= r ∧ r (some its.toArray) = pure (ps.zip (pick us its ws e.2.2.1)))
    (body : ∀ (f : Addr) (cdv : Value) (A : Around) (outer : List PySem.Env) (s : Shared) (H : Hp) (E : XK) (q : Sq), Room k (A.deeper (PyProof.Rows.envOfC x (L2.defScope st) s.heap.objs.size f cdv)) →
      PSSX (L2.cxOf (L2.CX P w) P w K mg base N x (L2.defScope st) f cdv A outer s H E) ⟨cm, none, fun cls d _ H' => E cls d H'⟩ q (L2.defBody st) b) :
    Has P w K mg base cm x (k + 1) ps bs ksb m (callF n b) := by
  obtain ⟨f, fd, hm, F⟩ := hd
  subst hps hN
  have G := fn_ok F S hmn fun cdv A outer s H E q hr => body f cdv A outer s H E q hr
  refine ⟨⟨f, fd, hm, F.kp, G, fun e he => ?_, fun e he => ?_⟩, lk_of hm (held_of F) G⟩
  · obtain ⟨p, j, rfl, hl, hq⟩ := hb e he
    obtain ⟨ds, r, hB⟩ := F.binds1 p j ne hl hq
    exact ⟨ds, dvs.drop j, hB, r, hdd.drop j⟩
  · obtain ⟨e1, hq⟩ := hkb e he
    obtain ⟨a1, a2, a3, a4, a5, a6, a7, a8, a9, b1, efd, b3, b4, b5, b6⟩ := F.ex
    rcases b5 with ⟨z, _⟩ | ⟨_, T, o, its, j, eT, lT, oT, rT⟩
    · exact absurd z ne
    · subst efd eT
      refine ⟨its, dvs, rT, by intros; rw [e1]; exact hdd, ⟨fun s us ws X l1 l2 => ?_, fun r1 r2 => pick_rel r1 rT r2 _⟩⟩
      obtain ⟨r, q1, q2⟩ := hq T a4 a5 a6 a7 a8 a9 us its ws l1 rT.length.symm l2
      refine L2.BindsTo.of_looks fun M => ?_
      rw [q1]
      exact L2.looks_items X lT oT (.of_pure q2)
theorem has_no {x : Str} {st : Stmt} {ps : List Str} {k m : Nat} (hd : ∃ f fd, DefAt K mg x st [] f fd) (hps : ps.length = m)
    (hb : ∀ (kV doc pm : Value) (an : Option Addr) (cdv ct : Value) (us : List Value), us.length = ps.length → bindArgs (PySem.W.fnOf x x (L2.defArgs st) (L2.defBody st) (L2.defScope st) .none kV doc pm an cdv ct) ⟨us, []⟩ = pure (ps.zip us)) :
    Has P w K mg base cm x k ps [[]] [] m fun _ => M.fail := by
  obtain ⟨f, fd, hm, F⟩ := hd
  subst hps
  have G : FnOk P w K mg base (L2.CX P w) k f fd ps (spX K cm ps.length fun _ => M.fail) := fnok_no
  exact ⟨⟨f, fd, hm, F.kp, G, fun dds hm => by
    rw [List.mem_singleton.mp hm]
    exact ⟨[], [], F.bindsN hb, .nil, RepL.nil⟩, fun e he => by cases he⟩, lk_of hm (held_of F) G⟩
/-- the law's def -/
theorem law_fin {st : Stmt} {k : Nat} {F : List D → M D} (hd : ∃ f fd, DefAt K mg "law" st [] f fd)
    (hb : ∀ (kV doc pm : Value) (an : Option Addr) (cdv ct : Value) (us : List Value), us.length = (["script"] : List Str).length → bindArgs (PySem.W.fnOf "law" "law" (L2.defArgs st) (L2.defBody st) (L2.defScope st) .none kV doc pm an cdv ct) ⟨us, []⟩ = pure ((["script"] : List Str).zip us))
    (G : ∀ base : Heap, Has P w K mg base cm "law" k ["script"] [[]] [] 1 F) : ∃ (cm : Nat → Addr) (f : Addr) (fd : FuncData), mg "law" = some (.ref f) ∧ (∀ (s : Shared) (u : Value), BindsTo s fd ⟨[u], []⟩ [("script", u)]) ∧
      ∀ base : Heap, K.In base → base.Ns mainGlobals mg → FnOk P w K mg base (L2.CX P w) k f fd ["script"] (spX K cm 1 F) := by
  obtain ⟨f, fd, hm, Fd⟩ := hd
  exact ⟨cm, f, fd, hm, fun s u => Fd.bindsA hb s [u] rfl, fun base _ _ => (G base).lk f hm fd (held_of Fd)⟩
/-- own exceptions -/
def ExcH (P : Program) (w : World) (K : PySem.W.Frag) (mg : Str → Option Value) (base : Heap) (x : Str) (C : Addr) (ns : List Str) : Prop := ∃ fI fd ps, ExcK K mg base P w x C fI fd ps ns
end
section
variable {X : Cx} {c : Cfg} {q : Sq} {pos : Pos} {e : Expr} {fe : EF} {es : List Expr} {fs : List EF}
/-- x(e, ..), every parameter written -/
theorem px_has {x : Str} {p : Pos} {k : Nat} {ps : List Str} {bs : List (List D)} {kb : List (Nat × List Str × List Src × List D)} {n : Nat} {F : List D → M D} (G : Has X.prog X.w X.K X.mg X.base c.cm x k ps bs kb n F) (hr : Room k X.A) (hx : L2.Takes X c.Wx) (hg : L2.Gl X x) (ha : PAX X c (e :: es) fs)
    (hb : [] ∈ bs := by simp) (hn : fs.length = n := by rfl) (hdb : (x == ("__debug__" : Str)) = false := by decide) (he : starEach (e :: es) X.env = (false, eval e X.env) :: starEach es X.env := by rfl) (hpl : (backTo pos (starEach es X.env)).any (·.1) = false := by rfl) :
    PX X c (.Call (.Name x p) (e :: es) [] pos) (eCall F fs) := by
  obtain ⟨f, fd, hm, hk, hF, hB, _⟩ := G.ex
  obtain ⟨ds, dvs, b1, b2, b3⟩ := hB [] hb
  have h := px_call (p := p) (pos := pos) (dds := []) hF hr hx hg hm hk b1 b2 b3 ha (by simpa using hn) hdb he hpl
  have e0 : (fun ds => F (ds ++ [])) = F := by funext ds; rw [List.append_nil]
  rw [e0] at h
  exact h
theorem px_has0 {x : Str} {p : Pos} {k : Nat} {ps : List Str} {bs : List (List D)} {kb : List (Nat × List Str × List Src × List D)} {n : Nat} {F : List D → M D} (dds : List D) (G : Has X.prog X.w X.K X.mg X.base c.cm x k ps bs kb n F) (hr : Room k X.A) (hx : L2.Takes X c.Wx) (hg : L2.Gl X x)
    (hb : dds ∈ bs := by simp) (hn : dds.length = n := by rfl) (hdb : (x == ("__debug__" : Str)) = false := by decide) : PX X c (.Call (.Name x p) [] [] pos) (eCall (fun ds => F (ds ++ dds)) []) := by
  obtain ⟨f, fd, hm, hk, hF, hB, _⟩ := G.ex
  obtain ⟨ds, dvs, b1, b2, b3⟩ := hB dds hb
  exact px_call0 hF hr hx hg hm hk b1 b2 b3 hn hdb
/-- .. some by their defaults -/
theorem px_hasD {x : Str} {p : Pos} {k : Nat} {ps : List Str} {bs : List (List D)} {kb : List (Nat × List Str × List Src × List D)} {n : Nat} {F : List D → M D} (dds : List D) (G : Has X.prog X.w X.K X.mg X.base c.cm x k ps bs kb n F) (hr : Room k X.A) (hx : L2.Takes X c.Wx) (hg : L2.Gl X x) (ha : PAX X c (e :: es) fs)
    (hb : dds ∈ bs := by simp) (hn : fs.length + dds.length = n := by rfl) (hdb : (x == ("__debug__" : Str)) = false := by decide) (he : starEach (e :: es) X.env = (false, eval e X.env) :: starEach es X.env := by rfl) (hpl : (backTo pos (starEach es X.env)).any (·.1) = false := by rfl) :
    PX X c (.Call (.Name x p) (e :: es) [] pos) (eCall (fun ds => F (ds ++ dds)) fs) := by
  obtain ⟨f, fd, hm, hk, hF, hB, _⟩ := G.ex
  obtain ⟨ds, dvs, b1, b2, b3⟩ := hB dds hb
  exact px_call hF hr hx hg hm hk b1 b2 b3 ha hn hdb he hpl
/-! keywords -/
abbrev PKX (X : Cx) (c : Cfg) (ks : List Keyword) (fs : List EF) : Prop := L2.PK X ks (tAX X.K c.cm c.xa c.Wx (evs fs))
theorem pkx_nil : PKX X c [] [] := ⟨fun pos pins s σ H Q I ⟨O, ρ, ph, w, h⟩ => L2.pk_nil.run pos pins s σ H Q I (h.ret (b := []) RepL.nil)⟩
theorem pkx_cons {nm : Option Str} {kpos : Pos} {ks : List Keyword} (ha : PX X c e fe) (hr : PKX X c ks fs) : PKX X c (⟨nm, e, kpos⟩ :: ks) (fe :: fs) :=
  ⟨fun pos pins s σ H Q I ⟨O, ρ, ph, w, h⟩ => (L2.pk_cons ha hr).run pos pins s σ H Q I
    (by
      have h' : Run X.K c.cm c.xa O (relL X.K c.cm O) c.Wx ρ σ ph H w (M.bind (fe ρ) fun x => M.bind (evs fs ρ) fun xs => M.ret (x :: xs)) Q := h
      exact ⟨O, ρ, ph, w, (Run.bind (rel := relV X.K c.cm O) h').imp fun v H1 ⟨d, ph1, w1, e1, s1, r1, h1⟩ => ⟨O, ρ, ph1, w1, (Run.bind (rel := relL X.K c.cm O) h1).imp fun vs H2 ⟨ds, ph2, w2, e2, s2, r2, h2⟩ => h2.ret (RepL.cons (Rep.keep (Ext.keep e2 s2) s2.m d v r1) r2)⟩⟩)⟩
/-- positional values, then keywords: one computation -/
theorem evs_app (ρ : Env) : ∀ (fs gs : List EF), evs (fs ++ gs) ρ = M.bind (evs fs ρ) fun xs => M.bind (evs gs ρ) fun ys => M.ret (xs ++ ys)
  | [], gs => by
    show evs gs ρ = M.bind (evs gs ρ) fun ys => M.ret ([] ++ ys)
    have : (fun ys : List D => M.ret ([] ++ ys)) = M.ret := by funext ys; rw [List.nil_append]
    rw [this, bind_ret]
  | f :: fs, gs => by
    show M.bind (f ρ) (fun x => M.bind (evs (fs ++ gs) ρ) fun xs => M.ret (x :: xs)) = _
    rw [evs_app ρ fs gs]
    show _ = M.bind (M.bind (f ρ) fun x => M.bind (evs fs ρ) fun xs => M.ret (x :: xs)) _
    simp only [bind_bind, ret_bind, List.cons_append]
def eCallK (F : List D → M D) (src : List Src) (dds : List D) (fs gs : List EF) : EF := fun ρ => M.bind (evs fs ρ) fun us => M.bind (evs gs ρ) fun ws => F (pick us dds ws src)
theorem px_hasK {x : Str} {p : Pos} {k m : Nat} {ps ks : List Str} {src : List Src} {bs : List (List D)} {kb : List (Nat × List Str × List Src × List D)} {n : Nat} {F : List D → M D} {kws : List Keyword} {gs : List EF} (dds : List D) (G : Has X.prog X.w X.K X.mg X.base c.cm x k ps bs kb n F) (hr : Room k X.A) (hx : L2.Takes X c.Wx) (hg : L2.Gl X x)
    (ha : PAX X c (e :: es) fs) (hkw : PKX X c kws gs) (hb : (m, ks, src, dds) ∈ kb := by simp) (hm1 : fs.length = m := by rfl) (hk1 : gs.length = ks.length := by rfl) (hn : src.length = n := by rfl) (hsr : (pick (fs.map fun _ => ()) (dds.map fun _ => ()) (gs.map fun _ => ()) src).length = n := by rfl)
    (hall : (backToKw pos (keywordEach kws X.env)).all (·.1.isSome) = true := by rfl) (hks : (backToKw pos (keywordEach kws X.env)).filterMap (·.1) = ks := by rfl)
    (hdb : (x == ("__debug__" : Str)) = false := by decide) (he : starEach (e :: es) X.env = (false, eval e X.env) :: starEach es X.env := by rfl)
    (hpl : ((backTo pos (starEach (e :: es) X.env)).any (·.1) || (backToKw pos (keywordEach kws X.env)).any (·.1.isNone)) = false := by rfl) :
    PX X c (.Call (.Name x p) (e :: es) kws pos) (eCallK F src dds fs gs) := by
  obtain ⟨f, fd, hm, hk, hF, _, hB⟩ := G.ex
  obtain ⟨its, dvs, b1, b3, b4⟩ := hB _ hb
  refine ⟨fun pins s σ H Q I ⟨O, ρ, ph, w, h⟩ => ?_⟩
  have plen : ∀ (us its ws : List D), us.length = fs.length → its.length = dds.length → ws.length = gs.length → (pick us its ws src).length = n := by
    intro us its ws l1 l2 l3
    rw [← hsr]
    have key : ∀ {α β : Type} (us its ws : List α) (us' its' ws' : List β), us.length = us'.length → its.length = its'.length → ws.length = ws'.length → ∀ l, (pick us its ws l).length = (pick us' its' ws' l).length := by
      intro α β us its ws us' its' ws' l1 l2 l3 l
      have k2 : ∀ (xs : List α) (ys : List β) (i : Nat), xs.length = ys.length → xs[i]?.toList.length = ys[i]?.toList.length := by
        intro xs ys i h
        by_cases hi : i < xs.length
        · rw [List.getElem?_eq_getElem hi, List.getElem?_eq_getElem (h ▸ hi)]; rfl
        · rw [List.getElem?_eq_none (by omega), List.getElem?_eq_none (by omega)]; rfl
      induction l with
      | nil => rfl
      | cons s r ih => cases s with
        | p i => simp only [pick, List.length_append, ih, k2 us us' i l1]
        | d i => simp only [pick, List.length_append, ih, k2 its its' i l2]
        | k i => simp only [pick, List.length_append, ih, k2 ws ws' i l3]
    exact key us its ws _ _ _ (by simpa using l1) (by simpa using l2) (by simpa using l3) src
  refine wpAny_Call_Name_kw (L2.ld_glob I hg hm ?_ hdb)
  have h1 := evs_run (k := fun us => M.bind (evs gs ρ) fun ws => F (pick us dds ws src)) h
  refine PySem.W.callWith_KW (h₀ := X.base) I.ok.mod.kin hk hall (L2.thn (ha.run pos pins s σ H _ I ⟨O, ρ, ph, w, h1⟩) fun us s1 ⟨vs, H1, I1, r, ds', ph1, w1, l, rl, h2⟩ => ?_) hpl he
  have h3 := evs_run (k := fun ws => F (pick ds' dds ws src)) h2
  have h3' : Run X.K c.cm c.xa O (relL X.K c.cm O) c.Wx ρ σ ph1 H1 w1 (evs gs ρ) (fun zs H2 => zs.length = gs.length ∧ ∃ as es' ph2 w2, vs.length = as.length ∧ RepL X.K c.cm H2 (OO O ph2) ph2 as vs ∧ RepL X.K c.cm H2 (OO O ph2) ph2 es' zs ∧ Run X.K c.cm c.xa O (relV X.K c.cm O) c.Wx ρ σ ph2 H2 w2 (F (pick as dds es' src)) Q) := by
    refine ⟨h3.env, h3.hand, ?_⟩
    have hp := h3.post
    have hp2 := h2.post
    unfold M.bind at hp2
    cases eg : evs gs ρ w1 with
    | ok ys w2 =>
      rw [eg] at hp hp2
      intro zs H2 ph2 x2 s2 k2 r2
      exact ⟨r2.length.symm.trans (evs_len _ _ _ _ eg), ds', ys, ph2, w2, rl.length.symm, rl.keep (Ext.keep x2 s2) s2.m _ _, r2, h2.env.ext x2 s2, k2, hp2.ext x2 s2⟩
    | ex => rw [eg] at hp; exact hp
    | bad => rw [eg] at hp; exact hp
  refine L2.thn (hkw.run pos pins s1 σ H1 _ I1 ⟨O, ρ, ph1, w1, h3'⟩) fun ws s2 ⟨zs, H2, I2, rz, lz, as, es', ph2, w2, la, ra, rl2, h4⟩ => ⟨I2.kIn, ?_⟩
  rw [hks]
  have lv : vs.length = m := by rw [l, hm1]
  have l3 : zs.length = ks.length := by rw [lz, hk1]
  have rep := pick_rep ra (b3 (H := H2) (N := OO O ph2) (ph := ph2)) rl2 src
  have r2 := b4.rel r rz
  have hb2 := b4.to s2 us ws I2.kIn (r.length.symm.trans lv) (rz.length.symm.trans l3)
  refine wpAny_call (codeAny_mono (hF.run X.A X.stack s2 H2 ⟨us, ks.zip ws⟩ _ _ Q (fun cls d H' => c.Wx cls d σ H') hr I2.env0 hb2 r2 ⟨?_, O, _, ph2, w2, h4.env.tr, h4.hand, rep, post_ws h4.post⟩) fun res s' hq => ?_)
  · rw [← rep.length]
    exact plen _ _ _ (by rw [← la, l]) rfl (by rw [rl2.length, lz])
  · match res, hq with
    | .error e, hq => exact L2.passAt hx σ pins H2 s2 e s' I2 hq
    | .ok (.ret u), hq => exact I2.after hq
    | .ok .next, hq => exact False.elim hq
    | .ok .brk, hq => exact False.elim hq
    | .ok .cont, hq => exact False.elim hq
/-! raise -/
theorem psx_raiseH {x : Str} {p pos' : Pos} {C : Addr} {ns : List Str} (k : Nat) (G : ExcH X.prog X.w X.K X.mg X.base x C ns) (hC : c.cm k = C) (hc : X.calm = true) (tk : L2.Takes X c.Wx) (hr : Room 2 X.A) (hg : L2.Gl X x)
    (ha : PAX X c (e :: es) fs) (hn : fs.length = ns.length := by rfl) (hl : ns.length ≤ 1000 := by decide) (hdb : (x == ("__debug__" : Str)) = false := by decide) (he : starEach (e :: es) X.env = (false, eval e X.env) :: starEach es X.env := by rfl) (hpl : (backTo pos (starEach es X.env)).any (·.1) = false := by rfl) :
    PSX X c q (.Raise (some (.Call (.Name x p) (e :: es) [] pos)) none pos') (sRaise k ns fs) := by
  obtain ⟨fI, fd, ps, G⟩ := G
  exact psx_raise k G hC hc tk hr hg ha hn hl hdb he hpl
theorem ptsx_nil : L2.PTs X [] (tTX X.K c.cm c.xa c.Wx tYes) := ⟨fun pins s σ H Q I ⟨O, ρ, ph, w, h⟩ => L2.pts_nil.run pins s σ H Q I (h.ret (b := true) rfl)⟩
end

/-! ### the end -/
theorem cx_end {P : Program} {w : World} {H : Hp} {s : Shared} {e : Value} {s' : Shared} (h : L2.CX P w [] H s (fun _ _ _ => False) e s') : False := by
  obtain ⟨_, _, _, _, _, _, _, _, _, _, _, _, z⟩ := h
  exact z
theorem repl_ints {K : PySem.W.Frag} {cm : Nat → Addr} {H : Hp} {N : NS} {ph : Option Addr} : ∀ ns : List Int, RepL K cm H N ph (ns.map D.int) (ns.map V.int)
  | [] => RepL.nil
  | n :: ns => RepL.cons (by simp [Rep]) (repl_ints ns)
theorem sp_end {K : PySem.W.Frag} {cm : Nat → Addr} {n : Nat} {F : List D → M D} (plain : ∀ ns : List Int, ns.length ≤ n → ∃ w', F [.frz (ns.map D.int)] none = .ok (.bl true) w') (H : Hp) (a : Addr) (ns : List Int) (hl : ns.length ≤ n) (S : L2.SqL K H a (ns.map V.int)) :
    spX K cm 1 F [.ref a] H (fun v _ => v = .bl true) fun _ _ _ => False := by
  refine ⟨rfl, fun _ => False, [.frz (ns.map D.int)], none, none, fun _ z => z.elim, trivial, RepL.one ?_, ?_⟩
  · simp only [Rep]
    refine ⟨a, _, rfl, ?_, repl_ints ns⟩
    rcases S with S | S
    · exact .inl ⟨fun z => z.elim (fun y => y) (fun y => nomatch y), S⟩
    · exact .inr S
  · obtain ⟨w', e⟩ := plain ns hl
    rw [e]
    intro v H' ph' _ _ _ r
    exact bl_of r
theorem law_end {l : PySem.W.OpenLaw} {n k : Nat} {q : PySem.Program} {loose : List Str} {XP : (Str → Option Value) → Heap → Prop} {YP : World → Heap → Prop} {d : DefRec} {K : Params → PySem.W.Frag} {F : List D → M D} (hn : l.most = some n) (hn2 : n ≤ sizeLine) (hdf : d.params.defaults = []) (hr : Room k callerA)
    (hY : ∀ (w : World) (h : Heap), YP w h → (K w.params).In h) (plain : ∀ ns : List Int, ns.length ≤ n → ∃ w', F [.frz (ns.map D.int)] none = .ok (.bl true) w')
    (G : ∀ (w : World) (mg : Str → Option Value) (h : Heap), (K w.params).In h → h.Ns mainGlobals mg → ∃ (cm : Nat → Addr) (f : Addr) (fd : FuncData), mg d.name = some (.ref f) ∧ (∀ (s : Shared) (u : Value), BindsTo s fd ⟨[u], []⟩ [("script", u)]) ∧
      ∀ base : Heap, (K w.params).In base → base.Ns mainGlobals mg → FnOk l.prog w (K w.params) mg base (L2.CX l.prog w) k f fd ["script"] (spX (K w.params) cm 1 F)) :
    PySem.W.WalkO q loose XP YP l.row.toRowW d [] (fun f vs => PySem.call f vs) := by
  refine L2.walk_of (CX := fun w => L2.CX l.prog w) (sp := fun w => fun vs H Q E => ∀ cm : Nat → Addr, spX (K w.params) cm 1 F vs H Q E) (k := k) (x := "script") hn hn2 hdf hr hY (fun w mg fa h KX GX hm => ?_) (fun w H a ns hl _ S cm => sp_end plain H a ns hl S) fun w H s e s' h => cx_end h
  obtain ⟨cm, f, fd, e, hb, hF⟩ := G w mg h KX GX
  rw [hm] at e
  cases e
  exact ⟨fd, hb, fun base KB NB => (hF base KB NB).imp fun vs H Q E z => z cm⟩
end FL

/-! F12: more words for the printed derivations. -/
namespace FL
open PySem
open L2 (V Hp HO Cx Inv VK XK TE TT TA TS TI TG PE PT PA PS PSs PI PG Ends WX RelV Vals Rd upd upd_same upd_ne ne_of_none EP TP AP OpR R2 CallR FnOk Room Binds)
def GInt (mg : Str → Option Value) (x : Str) (i : Int) : Prop := ∃ t : Tok, mg x = some (.int i t)
def GTup (K : PySem.W.Frag) (mg : Str → Option Value) (x : Str) (i j : Int) : Prop := ∃ (a : Addr) (ti tj : Tok) (dd : Option Addr) (sl : Array (Option Value)), mg x = some (.ref a) ∧ K.lookup a = some ⟨.type "tuple", dd, .seq #[.int i ti, .int j tj] 0, sl⟩
section
variable {X : Cx} {c : Cfg} {q : Sq} {pos : Pos} {e : Expr} {fe : EF}
theorem px_gintE {x : Str} {i : Int} (hg : L2.Gl X x) (h : GInt X.mg x i) (hd : (x == ("__debug__" : Str)) = false := by decide) : PX X c (.Name x pos) (eC (.int i)) := by
  obtain ⟨t, h⟩ := h
  exact px_gint hg h hd
theorem px_gtupE {x : Str} {i j : Int} (hg : L2.Gl X x) (h : GTup X.K X.mg x i j) (hd : (x == ("__debug__" : Str)) = false := by decide) : PX X c (.Name x pos) (eC (.tup [.int i, .int j])) := by
  obtain ⟨a, ti, tj, dd, sl, h, hk⟩ := h
  exact px_gtup2 hg h hk hd
abbrev PTSX (X : Cx) (c : Cfg) (es : List Expr) (f : TF) : Prop := L2.PTs X es (tTX X.K c.cm c.xa c.Wx f)
theorem ptsx0 : PTSX X c [] tYes := ptsx_nil
theorem ptsx1 {t : TF} (h : PTX X c e t) : PTSX X c [e] t := L2.pts_one h
theorem pnx_lcE {elt tg iter : Expr} {ifs : List Expr} {scope : Scope} {own : List (Str × Nat)} {f : IF} {g : GF} {gt : TG} {is : List Nat} {t : TF} {fe : EF} (hc : X.calm = true) (hN : X.N.Nodup) (hi : PIX X c tg iter f) (ok : L2.BlkOk X.N X.env.scope scope own) (his : own.map (·.2) = is)
    (hg : ∀ (s : Shared) (H : Hp) (C : Addr) (cl : List (Str × Addr)) (fp : List Addr), PG (X.blk s H scope (compEnvC scope cl C X.env) fp) tg gt) (hG : TGX X.K c.cm g gt is)
    (ht : ∀ (s : Shared) (H : Hp) (C : Addr) (cl : List (Str × Addr)) (fp : List Addr), PTSX (X.blk s H scope (compEnvC scope cl C X.env) fp) ⟨c.cm, c.xa, noW⟩ ifs t)
    (he : ∀ (s : Shared) (H : Hp) (C : Addr) (cl : List (Str × Addr)) (fp : List Addr), PX (X.blk s H scope (compEnvC scope cl C X.env) fp) ⟨c.cm, c.xa, noW⟩ elt fe) (hs : ∀ x, foldedSetIterable iter X.env x = pure x := by intro _; rfl) :
    PNX X c (.ListComp elt [⟨tg, iter, ifs, 0⟩] scope pos) (nLc f is g t fe) := pnx_lc hc hN hi ok his hg hG ht he hs
theorem psx_appE (i : Nat) {x : Str} {p0 p1 p2 : Pos} (he : PX X c e fe) (hN : X.N[i]? = some x := by rfl) (hv : L2.Vis X.env.scope x := by first | exact Or.inl rfl | exact Or.inr (Or.inl rfl) | exact Or.inr (Or.inr rfl)) (hd : (x == ("__debug__" : Str)) = false := by decide)
    (hcd : (x == ("__classdict__" : Str)) = false := by decide) (hst : starEach (e :: []) X.env = (false, eval e X.env) :: starEach [] X.env := by rfl) (hs : swapsWith (.Call (.Attribute (.Name x p0) "append" p1) [e] [] p2) none pos.line X.env = pure false := by rfl)
    (hpl : (backTo p2 (starEach [] X.env)).any (·.1) = false := by rfl)
    (hw : ((backTo p2 (starEach [e] X.env)).all (fun x => !x.1) && (backToKw p2 (keywordEach [] X.env)).all (fun x => x.1.isSome) && decide ([e].length + ([] : List Keyword).length + (if ([] : List Keyword).isEmpty then 0 else 1) < 30)) = true := by rfl)
    (hl : (p1.endLine == p2.line) = true := by rfl) : PSX X c q (.Expr (.Call (.Attribute (.Name x p0) "append" p1) [e] [] p2) pos) (sApp i fe) :=
  psx_app i he hN hv hd hcd hst hs hpl (L2.pe_bm PySem.F.plainAttrs_list PySem.F.slot_list_append PySem.F.type_list_append L2.mt_append (L2.pe_var hN hv hd hcd) (L2.pa_cons he L2.pa_nil hst) (by rfl) hw hl hst hpl)
end
section
variable {K : PySem.W.Frag} {mg : Str → Option Value} {h : Heap} {P : Program} {w : World} {base : Heap}
theorem exm_of {cls : Value} {C : Addr} {b : Bool} (e : PySem.W.subIn K (.ref C) (.type "BaseException") = some true) (i : PySem.W.isClsIn K C = true) (t : PySem.W.typeIn K (.ref C) = some (.type "type")) (s : PySem.W.subIn K cls (.ref C) = some b) : PySem.W.exmOne K cls (.ref C) = some b := by
  have q1 : (some true == some true) = true := by decide
  have q2 : ((PySem.W.clsIn K C).isSome && PySem.W.typeIn K (.ref C) == some (.type "type")) = true := by
    simp only [Bool.and_eq_true, beq_iff_eq]
    exact ⟨i, t⟩
  unfold PySem.W.exmOne
  rw [e, if_pos q1]
  unfold PySem.W.kitCls
  simp only [if_pos q2]
  exact s
theorem excH1 {x qual : Str} {st : Stmt} {C f : Addr} {n0 n1 f1 : Str} {ps : List Str} {oc kV doc pm cdv ct : Value} {od an : Option Addr} {osl : Array (Option Value)} {p1 p2 p3 p4 : Pos} (X : K.In h) (G : h.Ns mainGlobals mg) (T : L2.OexC K C) (iC : PySem.W.findIn K (.ref C) "__init__" = some (some (.ref f))) (tI : PySem.W.typeIn K (.ref f) = some (.type "function"))
    (l : K.lookup f = some ⟨oc, od, .func (PySem.W.fnOf "__init__" qual (L2.defArgs st) (L2.defBody st) (L2.defScope st) .none kV doc pm an cdv ct), osl⟩) (c : PySem.W.codeIn K cdv qual = true) (k : PySem.W.keepIn K (.ref f) = true) (S : L2.FnScope [n0, n1] ps (L2.defScope st)) (hps : ps = [n0, n1])
    (hm : mg x = some (.ref C)) (hno : PySem.W.findIn K (.ref C) f1 = some none)
    (eb : L2.defBody st = [.Assign [.Attribute (.Name n0 p1) f1 p2] (.Name n1 p3) p4])
    (hb : ∀ (kV doc pm : Value) (an : Option Addr) (cdv ct : Value) (us : List Value), us.length = ps.length → bindArgs (PySem.W.fnOf "__init__" qual (L2.defArgs st) (L2.defBody st) (L2.defScope st) .none kV doc pm an cdv ct) ⟨us, []⟩ = pure (ps.zip us))
    (v0 : L2.Vis (L2.defScope st) n0 := by exact Or.inl rfl) (v1 : L2.Vis (L2.defScope st) n1 := by exact Or.inl rfl) (d0 : (n0 == ("__debug__" : Str)) = false := by decide) (d1 : (n1 == ("__debug__" : Str)) = false := by decide) (c0 : (n0 == ("__classdict__" : Str)) = false := by decide) (c1 : (n1 == ("__classdict__" : Str)) = false := by decide)
    (hsw : ∀ env : PySem.Env, swapsWith (.Name n1 p3) (some (.Attribute (.Name n0 p1) f1 p2)) p4.line env = pure false := by intro _; rfl) : ExcH P w K mg base x C [f1] := by
  have F : L2.FunD K "__init__" qual (L2.defArgs st) (L2.defBody st) (L2.defScope st) [] [] f _ := ⟨⟨oc, od, .none, kV, doc, pm, an, cdv, ct, osl, rfl, l, c, .inl ⟨rfl, rfl⟩, .inl rfl⟩, k⟩
  have B := F.bindsN hb
  rw [eb] at F B
  exact ⟨f, _, ps, T, iC, tI, init1_ok F S (by rw [hps]; rfl) v0 v1 d0 d1 c0 c1 hsw, B, hm, fun n hn => by rw [List.mem_singleton.mp hn]; exact hno⟩
theorem excH2 {x qual : Str} {st : Stmt} {C f : Addr} {n0 n1 n2 f1 f2 : Str} {ps : List Str} {oc kV doc pm cdv ct : Value} {od an : Option Addr} {osl : Array (Option Value)} {p1 p2 p3 p4 p5 p6 p7 p8 : Pos} (X : K.In h) (G : h.Ns mainGlobals mg) (T : L2.OexC K C) (iC : PySem.W.findIn K (.ref C) "__init__" = some (some (.ref f))) (tI : PySem.W.typeIn K (.ref f) = some (.type "function"))
    (l : K.lookup f = some ⟨oc, od, .func (PySem.W.fnOf "__init__" qual (L2.defArgs st) (L2.defBody st) (L2.defScope st) .none kV doc pm an cdv ct), osl⟩) (c : PySem.W.codeIn K cdv qual = true) (k : PySem.W.keepIn K (.ref f) = true) (S : L2.FnScope [n0, n1, n2] ps (L2.defScope st)) (hps : ps = [n0, n1, n2])
    (hm : mg x = some (.ref C)) (hno : PySem.W.findIn K (.ref C) f1 = some none) (hno2 : PySem.W.findIn K (.ref C) f2 = some none)
    (eb : L2.defBody st = [.Assign [.Attribute (.Name n0 p1) f1 p2] (.Name n1 p3) p4, .Assign [.Attribute (.Name n0 p5) f2 p6] (.Name n2 p7) p8])
    (hb : ∀ (kV doc pm : Value) (an : Option Addr) (cdv ct : Value) (us : List Value), us.length = ps.length → bindArgs (PySem.W.fnOf "__init__" qual (L2.defArgs st) (L2.defBody st) (L2.defScope st) .none kV doc pm an cdv ct) ⟨us, []⟩ = pure (ps.zip us))
    (v0 : L2.Vis (L2.defScope st) n0 := by exact Or.inl rfl) (v1 : L2.Vis (L2.defScope st) n1 := by exact Or.inl rfl) (v2 : L2.Vis (L2.defScope st) n2 := by exact Or.inl rfl) (d0 : (n0 == ("__debug__" : Str)) = false := by decide) (d1 : (n1 == ("__debug__" : Str)) = false := by decide) (d2 : (n2 == ("__debug__" : Str)) = false := by decide)
    (c0 : (n0 == ("__classdict__" : Str)) = false := by decide) (c1 : (n1 == ("__classdict__" : Str)) = false := by decide) (c2 : (n2 == ("__classdict__" : Str)) = false := by decide)
    (hs1 : ∀ env : PySem.Env, swapsWith (.Name n1 p3) (some (.Attribute (.Name n0 p1) f1 p2)) p4.line env = pure false := by intro _; rfl) (hs2 : ∀ env : PySem.Env, swapsWith (.Name n2 p7) (some (.Attribute (.Name n0 p5) f2 p6)) p8.line env = pure false := by intro _; rfl) : ExcH P w K mg base x C [f1, f2] := by
  have F : L2.FunD K "__init__" qual (L2.defArgs st) (L2.defBody st) (L2.defScope st) [] [] f _ := ⟨⟨oc, od, .none, kV, doc, pm, an, cdv, ct, osl, rfl, l, c, .inl ⟨rfl, rfl⟩, .inl rfl⟩, k⟩
  have B := F.bindsN hb
  rw [eb] at F B
  exact ⟨f, _, ps, T, iC, tI, init2_ok F S (by rw [hps]; rfl) v0 v1 v2 d0 d1 d2 c0 c1 c2 hs1 hs2, B, hm, fun n hn => by
    rcases List.mem_cons.mp hn with e | hn
    · rw [e]; exact hno
    · rw [List.mem_singleton.mp hn]; exact hno2⟩
end
end FL

/-! F13: lists of the def's own, read while they grow; insert, pop. -/
namespace FL
open PySem
open L2 (V Hp HO Cx Inv VK XK TE TT TA TS TI TG PE PT PA PS PSs PI PG Ends WX RelV Vals Rd upd upd_same upd_ne ne_of_none EP TP AP OpR R2 CallR FnOk Room Binds)
mutual
/-- no list, no object, no hand in it -/
def noLst : D → Bool
  | .non | .bl _ | .int _ | .str _ => true
  | .tup xs => noLstL xs
  | _ => false
def noLstL : List D → Bool
  | [] => true
  | x :: xs => noLst x && noLstL xs
end
mutual
/-- no hand in it -/
def noHand : D → Bool
  | .hand => false
  | .tup xs | .lst xs | .frz xs | .ins _ _ xs => noHandL xs
  | _ => true
def noHandL : List D → Bool
  | [] => true
  | x :: xs => noHand x && noHandL xs
end
/-- the slots as they are read: own lists as lists, nothing of the hand -/
def borS : Slot → Slot
  | .val d => if noHand d = true then .val d else .none
  | .own xs => if noHandL xs = true then .val (.lst xs) else .none
  | .exc c ns xs => if noHandL xs = true then .exc c ns xs else .none
  | .none => .none
def borE (ρ : Env) : Env := ρ.map borS
def eBor (e : EF) : EF := fun ρ w => match e (borE ρ) none with
  | .ok d none => if noLst d = true then .ok d w else .bad
  | .ex c ns xs none => if noLstL xs = true then .ex c ns xs w else .bad
  | _ => .bad
def tBor (t : TF) : TF := fun ρ w => match t (borE ρ) none with
  | .ok b none => .ok b w
  | .ex c ns xs none => if noLstL xs = true then .ex c ns xs w else .bad
  | _ => .bad
section
variable {K : PySem.W.Frag} {cm : Nat → Addr} {H H' : Hp} {N N' O : NS} {ph ph' : Option Addr}
mutual
theorem rep_noph (hN : ∀ a, N' a → N a) : ∀ (d : D) (v : V), noHand d = true → Rep K cm H N ph d v → Rep K cm H N' none d v
  | .non, _, _, h => by simpa [Rep] using h
  | .bl _, _, _, h => by simpa [Rep] using h
  | .int _, _, _, h => by simpa [Rep] using h
  | .str _, _, _, h => by simpa [Rep] using h
  | .tup ds, v, e, h => by
    simp only [Rep, noHand] at h e ⊢
    obtain ⟨a, vs, e1, t, r⟩ := h
    exact ⟨a, vs, e1, t.imp (fun z => ⟨fun q => z.1 (hN a q), z.2⟩) (fun z => z), repl_noph hN ds vs e r⟩
  | .lst ds, v, e, h => by
    simp only [Rep, noHand] at h e ⊢
    obtain ⟨a, vs, e1, ⟨n, t⟩, r⟩ := h
    exact ⟨a, vs, e1, ⟨fun q => n (hN a q), t⟩, repl_noph hN ds vs e r⟩
  | .frz ds, v, e, h => by
    simp only [Rep, noHand] at h e ⊢
    obtain ⟨a, vs, e1, t, r⟩ := h
    exact ⟨a, vs, e1, t.imp (fun z => ⟨fun q => z.1 (hN a q), z.2⟩) (fun z => z), repl_noph hN ds vs e r⟩
  | .ins c ns ds, v, e, h => by
    simp only [Rep, noHand] at h e ⊢
    obtain ⟨a, dx, vs, e1, n, t, l, r⟩ := h
    exact ⟨a, dx, vs, e1, fun q => n (hN a q), t, l, repl_noph hN ds vs e r⟩
  | .hand, v, e, _ => by simp [noHand] at e
theorem repl_noph (hN : ∀ a, N' a → N a) : ∀ (ds : List D) (vs : List V), noHandL ds = true → RepL K cm H N ph ds vs → RepL K cm H N' none ds vs
  | [], _, _, h => by simpa [RepL] using h
  | d :: ds, vs, e, h => by
    simp only [RepL, noHandL, Bool.and_eq_true] at h e ⊢
    obtain ⟨v, r, e1, h1, h2⟩ := h
    exact ⟨v, r, e1, rep_noph hN d v e.1 h1, repl_noph hN ds r e.2 h2⟩
end
mutual
/-- what holds no list stands where no list is -/
theorem rep_nolst (hN : ∀ a, N' a → ∃ vs, H a = some (.lst vs)) : ∀ (d : D) (v : V), noLst d = true → Rep K cm H N ph d v → Rep K cm H N' ph' d v
  | .non, _, _, h => by simpa [Rep] using h
  | .bl _, _, _, h => by simpa [Rep] using h
  | .int _, _, _, h => by simpa [Rep] using h
  | .str _, _, _, h => by simpa [Rep] using h
  | .tup ds, v, e, h => by
    simp only [Rep, noLst] at h e ⊢
    obtain ⟨a, vs, e1, t, r⟩ := h
    refine ⟨a, vs, e1, t.imp (fun z => ⟨fun q => ?_, z.2⟩) (fun z => z), repl_nolst hN ds vs e r⟩
    obtain ⟨ws, y⟩ := hN a q
    rcases z.2 with z | ⟨o, z⟩ <;> (rw [y] at z; cases z)
  | .lst _, _, e, _ => by simp [noLst] at e
  | .frz _, _, e, _ => by simp [noLst] at e
  | .ins _ _ _, _, e, _ => by simp [noLst] at e
  | .hand, _, e, _ => by simp [noLst] at e
theorem repl_nolst (hN : ∀ a, N' a → ∃ vs, H a = some (.lst vs)) : ∀ (ds : List D) (vs : List V), noLstL ds = true → RepL K cm H N ph ds vs → RepL K cm H N' ph' ds vs
  | [], _, _, h => by simpa [RepL] using h
  | d :: ds, vs, e, h => by
    simp only [RepL, noLstL, Bool.and_eq_true] at h e ⊢
    obtain ⟨v, r, e1, h1, h2⟩ := h
    exact ⟨v, r, e1, rep_nolst hN d v e.1 h1, repl_nolst hN ds r e.2 h2⟩
end
/-- what stays owned while own lists are read -/
def borO (O : NS) (ρ : Env) (σ : St) (ph : Option Addr) : NS := fun a => ph = some a ∨ (O a ∧ ∀ (j : Nat) xs, ρ[j]? = some (.own xs) → σ[j]? ≠ some (some (.ref a)))
variable {xa : Option (Addr × Nat × Addr)} {ρ : Env} {σ : St} {w : Wd}
theorem bor_sub : ∀ a, OO (borO O ρ σ ph) none a → OO O ph a := fun a z => by
  rcases z with (z | z) | z
  · exact .inr z
  · exact .inl z.1
  · cases z
theorem bor_env (he : EnvE K cm xa O H ph ρ σ) (hh : HandOk K cm H O ph w) : EnvE K cm xa (borO O ρ σ ph) H none (borE ρ) σ := by
  refine ⟨by unfold borE; simp [he.len], fun i s x e1 e2 => ?_, fun a z => ⟨fun q => (nomatch q), ?_⟩⟩
  · unfold borE at e1
    rw [List.getElem?_map] at e1
    cases e : ρ[i]? with
    | none => rw [e] at e1; cases e1
    | some t =>
      rw [e] at e1
      have hs := he.at_ i t x e e2
      cases t with
      | none => cases e1; trivial
      | val d =>
        by_cases hn : noHand d = true
        · have e3 : s = .val d := by simpa [borS, hn] using e1.symm
          subst e3
          obtain ⟨v, ev, r⟩ := hs
          exact ⟨v, ev, rep_noph bor_sub d v hn r⟩
        · have e3 : s = .none := by simpa [borS, hn] using e1.symm
          subst e3; trivial
      | own ds =>
        by_cases hn : noHandL ds = true
        · have e3 : s = .val (.lst ds) := by simpa [borS, hn] using e1.symm
          subst e3
          obtain ⟨p, vs, ev, o, hp, r⟩ := hs
          refine ⟨.ref p, ev, ?_⟩
          simp only [Rep]
          refine ⟨p, vs, rfl, ⟨fun z => ?_, hp⟩, repl_noph bor_sub ds vs hn r⟩
          rcases z with (z | z) | z
          · exact (he.tr p o).1 z
          · exact z.2 i ds e (by rw [e2, ev])
          · cases z
        · have e3 : s = .none := by simpa [borS, hn] using e1.symm
          subst e3; trivial
      | exc c ns ds =>
        by_cases hn : noHandL ds = true
        · have e3 : s = .exc c ns ds := by simpa [borS, hn] using e1.symm
          subst e3
          obtain ⟨a, dd, vs, ev, hx, n, hd, l, r⟩ := hs
          exact ⟨a, dd, vs, ev, hx, fun q => n (bor_sub dd q), hd, l, repl_noph bor_sub ds vs hn r⟩
        · have e3 : s = .none := by simpa [borS, hn] using e1.symm
          subst e3; trivial
  · rcases z with z | z
    · exact hh.tr z
    · exact (he.tr a z.1).2
theorem bor_lists (he : EnvE K cm xa O H ph ρ σ) (hh : HandOk K cm H O ph w) (x : Ext none H H') : ∀ a, OO O ph a → ∃ vs, H' a = some (.lst vs) := fun a z => by
  have : ∃ vs, H a = some (.lst vs) := by
    rcases z with z | z
    · exact (he.tr a z).2
    · exact hh.tr z
  obtain ⟨vs, e⟩ := this
  exact ⟨vs, x a _ (fun q => by cases q) e⟩
theorem bor_hand (hh : HandOk K cm H O ph w) (x : Ext none H H') : HandOk K cm H' O ph w :=
  hh.keep (Ext.keep (fun b o _ e => x b o (fun q => by cases q) e) .refl) fun p _ o e => x p o (fun q => by cases q) e
end
section
variable {X : Cx} {c : Cfg} {q : Sq} {pos : Pos} {e : Expr} {fe : EF}
theorem px_bor (h : PX X c e fe) : PX X c e (eBor fe) := PE.to h fun σ H Q ⟨O, ρ, ph, w, h⟩ => by
  refine ⟨borO O ρ σ ph, borE ρ, none, none, bor_env h.env h.hand, trivial, ?_⟩
  have hp := h.post
  unfold eBor at hp
  cases er : fe (borE ρ) none with
  | ok d w1 =>
    rw [er] at hp
    cases w1 with
    | some hs => exact (show False from hp).elim
    | none =>
      simp only at hp
      by_cases hn : noLst d = true
      · rw [if_pos hn] at hp
        intro v H' ph1 x s hk r
        cases ph1 with
        | some p => exact hk.elim
        | none => exact hp v H' ph (fun b o _ e => x b o (fun q => by cases q) e) .refl (bor_hand h.hand x) (rep_nolst (bor_lists h.env h.hand x) d v hn r)
      · rw [if_neg hn] at hp; exact (show False from hp).elim
  | ex k ns xs w1 =>
    rw [er] at hp
    cases w1 with
    | some hs => exact (show False from hp).elim
    | none =>
      simp only at hp
      by_cases hn : noLstL xs = true
      · rw [if_pos hn] at hp
        intro dd H' ph1 vs x s hk hd l r
        cases ph1 with
        | some p => exact hk.elim
        | none => exact hp dd H' ph vs (fun b o _ e => x b o (fun q => by cases q) e) .refl (bor_hand h.hand x) hd l (repl_nolst (bor_lists h.env h.hand x) xs vs hn r)
      · rw [if_neg hn] at hp; exact (show False from hp).elim
  | bad => rw [er] at hp; exact (show False from hp).elim
theorem ptx_bor {t : TF} (h : PTX X c e t) : PTX X c e (tBor t) := PT.to h fun σ H Q ⟨O, ρ, ph, w, h⟩ => by
  refine ⟨borO O ρ σ ph, borE ρ, none, none, bor_env h.env h.hand, trivial, ?_⟩
  have hp := h.post
  unfold tBor at hp
  cases er : t (borE ρ) none with
  | ok d w1 =>
    rw [er] at hp
    cases w1 with
    | some hs => exact (show False from hp).elim
    | none =>
      intro v H' ph1 x s hk r
      cases ph1 with
      | some p => exact hk.elim
      | none => exact hp v H' ph (fun b o _ e => x b o (fun q => by cases q) e) .refl (bor_hand h.hand x) r
  | ex k ns xs w1 =>
    rw [er] at hp
    cases w1 with
    | some hs => exact (show False from hp).elim
    | none =>
      simp only at hp
      by_cases hn : noLstL xs = true
      · rw [if_pos hn] at hp
        intro dd H' ph1 vs x s hk hd l r
        cases ph1 with
        | some p => exact hk.elim
        | none => exact hp dd H' ph vs (fun b o _ e => x b o (fun q => by cases q) e) .refl (bor_hand h.hand x) hd l (repl_nolst (bor_lists h.env h.hand x) xs vs hn r)
      · rw [if_neg hn] at hp; exact (show False from hp).elim
  | bad => rw [er] at hp; exact (show False from hp).elim
end
end FL

/-! F14: methods that change a list of the def's own. -/
namespace FL
open PySem
open L2 (V Hp HO Cx Inv VK XK TE TT TA TS TI TG PE PT PA PS PSs PI PG Ends WX RelV Vals Rd upd upd_same upd_ne ne_of_none EP TP AP OpR R2 CallR FnOk Room Binds)
def mutK (i : Nat) (f : List D → List D → Option (List D)) (xs : List D) (ρ : Env) (ds : List D) (w : Wd) : SR := match f xs ds with
  | some ys => .nx (ρ.set i (.own ys)) w
  | none => .bad
/-- x.m(e, ..), x a list of the def's own -/
def sMut (i : Nat) (f : List D → List D → Option (List D)) (es : List EF) : SF := fun ρ w => match ρ[i]? with
  | some (.own xs) => onE (evs es ρ) ρ w (mutK i f xs ρ)
  | _ => .bad
def insF (xs : List D) : List D → Option (List D)
  | [.int k, d] => if 0 ≤ k ∧ k < 2 ^ 62 ∧ xs.length < line then some (xs.take k.toNat ++ [d] ++ xs.drop k.toNat) else none
  | _ => none
def popAtF (xs : List D) : List D → Option (List D)
  | [.int k] => if -(2 ^ 62) ≤ k ∧ k < 2 ^ 62 then (ixP xs.length k).map fun j => xs.eraseIdx j else none
  | _ => none
def popF (xs : List D) : List D → Option (List D)
  | [] => if xs = [] then none else some xs.dropLast
  | _ => none
def revF (xs : List D) : List D → Option (List D)
  | [] => some xs.reverse
  | _ => none
/-- r is f, of a list that stands at p -/
def MutOk (K : PySem.W.Frag) (f : List D → List D → Option (List D)) (r : V → List V → Hp → VK → Prop) : Prop := ∀ {cm : Nat → Addr} {H : Hp} {N N' : NS} {ph ph' : Option Addr} {xs ds ys : List D} {vs us : List V} {p : Addr} {Q : VK}, f xs ds = some ys → H p = some (.lst vs) → RepL K cm H N ph xs vs → RepL K cm H N' ph' ds us →
  (∀ (v : V) (ws : List V), (∀ {cm' : Nat → Addr} {H' N'' ph''}, RepL K cm' H' N'' ph'' xs vs → RepL K cm' H' N'' ph'' ds us → RepL K cm' H' N'' ph'' ys ws) → Q v (upd H p (.lst ws))) → r (.ref p) us H Q
section
variable {K : PySem.W.Frag}
theorem RepL.eraseIdx {cm : Nat → Addr} {H : Hp} {N : NS} {ph : Option Addr} : ∀ {ds : List D} {vs : List V} (n : Nat), RepL K cm H N ph ds vs → RepL K cm H N ph (ds.eraseIdx n) (vs.eraseIdx n)
  | [], _, n, h => by cases h.unnil; simpa using RepL.nil
  | d :: ds, vs, n, h => by
    obtain ⟨v, r, rfl, h1, h2⟩ := h.uncons
    cases n with
    | zero => exact h2
    | succ n => exact RepL.cons h1 (RepL.eraseIdx n h2)
theorem ins_ok : MutOk K insF (fun x vs H Q => ∃ (l : Addr) (xs : List V) (i : Int) (y : V), x = .ref l ∧ vs = [.int i, y] ∧ H l = some (.lst xs) ∧ xs.length < sizeLine ∧ 0 ≤ i ∧ i < 2 ^ 63 ∧ Q .non (upd H l (.lst (xs.take i.toNat ++ [y] ++ xs.drop i.toNat)))) := by
  intro cm H N N' ph ph' xs ds ys vs us p Q e hp r s hq
  unfold insF at e
  split at e
  · rename_i k d
    obtain ⟨v1, r1, rfl, q1, q2⟩ := s.uncons
    obtain ⟨v2, r2, rfl, q3, q4⟩ := q2.uncons
    cases q4.unnil
    cases int_of q1
    by_cases hc : 0 ≤ k ∧ k < 2 ^ 62 ∧ xs.length < line
    · rw [if_pos hc] at e
      cases e
      refine ⟨p, vs, k, v2, rfl, rfl, hp, by rw [sizeLine_eq, ← r.length]; exact hc.2.2, hc.1, by have := hc.2.1; omega, hq _ _ fun a b => ?_⟩
      obtain ⟨_, _, z, _, b2⟩ := b.uncons
      cases z
      obtain ⟨_, _, z, b3, _⟩ := b2.uncons
      cases z
      exact ((RepL.take _ a).append (RepL.one b3)).append (RepL.drop _ a)
    · rw [if_neg hc] at e; cases e
  · cases e
theorem popAt_ok : MutOk K popAtF L2.rPopAt := by
  intro cm H N N' ph ph' xs ds ys vs us p Q e hp r s hq
  unfold popAtF at e
  split at e
  · rename_i k
    obtain ⟨v1, r1, rfl, q1, q2⟩ := s.uncons
    cases q2.unnil
    cases int_of q1
    by_cases hc : -(2 ^ 62) ≤ k ∧ k < 2 ^ 62
    · rw [if_pos hc] at e
      cases ej : ixP xs.length k with
      | none => rw [ej] at e; cases e
      | some j =>
        rw [ej] at e
        cases e
        have hj : j < xs.length := by
          unfold ixP at ej
          split at ej
          · cases ej; omega
          · split at ej
            · cases ej; omega
            · cases ej
        have hsq : seqIndex? k vs.length = some j := by
          rw [← r.length]
          unfold ixP at ej
          unfold seqIndex?
          split at ej
          · rename_i h
            cases ej
            simp [h.1, h.2]
            omega
          · split at ej
            · rename_i h1 h2
              cases ej
              simp
              omega
            · cases ej
        refine ⟨p, vs, k, j, vs[j]'(by rw [← r.length]; exact hj), rfl, rfl, hp, by omega, by omega, hsq, List.getElem?_eq_getElem _, hq _ _ fun a _ => RepL.eraseIdx j a⟩
    · rw [if_neg hc] at e; cases e
  · cases e
theorem RepL.dropLast {cm : Nat → Addr} {H : Hp} {N : NS} {ph : Option Addr} {ds : List D} {vs : List V} (h : RepL K cm H N ph ds vs) : RepL K cm H N ph ds.dropLast vs.dropLast := by
  rw [List.dropLast_eq_take, List.dropLast_eq_take, h.length]
  exact RepL.take _ h
theorem pop_ok : MutOk K popF L2.rPop := by
  intro cm H N N' ph ph' xs ds ys vs us p Q e hp r s hq
  unfold popF at e
  split at e
  · cases s.unnil
    by_cases hx : xs = []
    · rw [if_pos hx] at e; cases e
    · rw [if_neg hx] at e
      cases e
      have hl : vs.length - 1 < vs.length := by
        have := r.length
        have : xs.length ≠ 0 := fun z => hx (List.length_eq_zero_iff.mp z)
        omega
      exact ⟨p, vs, vs[vs.length - 1], rfl, rfl, hp, List.getElem?_eq_getElem hl, hq _ _ fun a _ => RepL.dropLast a⟩
  · cases e
theorem rev_ok : MutOk K revF L2.rReverse := by
  intro cm H N N' ph ph' xs ds ys vs us p Q e hp r s hq
  unfold revF at e
  split at e
  · cases s.unnil
    cases e
    exact ⟨p, vs, rfl, rfl, hp, hq _ _ fun a _ => RepL.reverse a⟩
  · cases e
end
section
variable {X : Cx} {c : Cfg} {q : Sq} {pos : Pos} {e : Expr} {es : List Expr} {fs : List EF} {f : List FL.D → List FL.D → Option (List FL.D)} {r : V → List V → Hp → VK → Prop}
theorem mut_end {K : PySem.W.Frag} {cm : Nat → Addr} {xa : Option (Addr × Nat × Addr)} {Wx : WX} {D : Ends} {i : Nat} {ρ : Env} {σ : St} {ph1 : Option Addr} {H1 : Hp} {w1 : Wd} {xs ds : List FL.D} {us : List V} {p : Addr} (hr : MutOk K f r) (e0 : ρ[i]? = some (.own xs)) (e1 : σ[i]? = some (some (.ref p))) (h1 : StS K cm xa q ρ ph1 w1 σ H1)
    (rd : RepL K cm H1 (NN q ρ σ ph1) ph1 ds us) (hp1 : Post2 K cm xa q Wx D H1 (NN q ρ σ ph1) ph1 (mutK i f xs ρ ds w1)) : r (.ref p) us H1 (fun _ H' => D.nx σ H') := by
  obtain ⟨p', vs', e1', o', hv', r'⟩ := h1.env.ownd e0
  rw [e1] at e1'; cases e1'
  unfold mutK at hp1
  cases ef : f xs ds with
  | none => rw [ef] at hp1; exact (show False from hp1).elim
  | some ys =>
    rw [ef] at hp1
    refine hr ef hv' r' rd fun v ws hw => ?_
    obtain ⟨h2, k2⟩ := h1.chg e0 e1 (hw r' rd)
    exact hp1 σ _ ph1 h2 k2.kp
theorem psx_mut (i : Nat) {x m : Str} {id : String} {p0 p1 p2 : Pos} (hr : MutOk X.K f r) (slot : PySem.Slot "list" m id) (hty : typeOf (.builtin id) = pure (.type "method_descriptor")) (hm : L2.MtR X id r) (ha : PAX X c (e :: es) fs) (hN : X.N[i]? = some x := by rfl)
    (hv : L2.Vis X.env.scope x := by first | exact Or.inl rfl | exact Or.inr (Or.inl rfl) | exact Or.inr (Or.inr rfl)) (hd : (x == ("__debug__" : Str)) = false := by decide) (hcd : (x == ("__classdict__" : Str)) = false := by decide)
    (hst : starEach (e :: es) X.env = (false, eval e X.env) :: starEach es X.env := by rfl) (hs : swapsWith (.Call (.Attribute (.Name x p0) m p1) (e :: es) [] p2) none pos.line X.env = pure false := by rfl) (hpl : (backTo p2 (starEach es X.env)).any (·.1) = false := by rfl)
    (hbase : attributeBase (.Name x p0) m X.env (eval (.Name x p0) X.env) = eval (.Name x p0) X.env := by rfl)
    (hw : ((backTo p2 (starEach (e :: es) X.env)).all (fun x => !x.1) && (backToKw p2 (keywordEach [] X.env)).all (fun x => x.1.isSome) && decide ((e :: es).length + ([] : List Keyword).length + (if ([] : List Keyword).isEmpty then 0 else 1) < 30)) = true := by rfl)
    (hl : (p1.endLine == p2.line) = true := by rfl) : PSX X c q (.Expr (.Call (.Attribute (.Name x p0) m p1) (e :: es) [] p2) pos) (sMut i f fs) :=
  PS.to (L2.ps_expr (L2.pe_bm PySem.F.plainAttrs_list slot hty hm (L2.pe_var hN hv hd hcd) ha hbase hw hl hst hpl) hs) fun D σ H ⟨ρ, ph, w, h, hp⟩ => by
    unfold sMut at hp
    cases e0 : ρ[i]? with
    | none => rw [e0] at hp; exact (show False from hp).elim
    | some sl =>
      rw [e0] at hp
      cases sl with
      | own xs =>
        obtain ⟨p, vs, e1, o, hv, rr⟩ := h.env.ownd e0
        exact ⟨.ref p, e1, .inl ⟨rfl, vs, .inl (.inl hv)⟩, _, ρ, ph, w, (evs_run2 h hp).imp fun us H1 ⟨ds, ph1, w1, l, rd, h1, k, hp1⟩ => mut_end hr e0 e1 h1 rd hp1⟩
      | _ => exact (show False from hp).elim
theorem psx_mut0 (i : Nat) {x m : Str} {id : String} {p0 p1 p2 : Pos} (hr : MutOk X.K f r) (slot : PySem.Slot "list" m id) (hty : typeOf (.builtin id) = pure (.type "method_descriptor")) (hm : L2.MtR X id r) (hN : X.N[i]? = some x := by rfl)
    (hv : L2.Vis X.env.scope x := by first | exact Or.inl rfl | exact Or.inr (Or.inl rfl) | exact Or.inr (Or.inr rfl)) (hd : (x == ("__debug__" : Str)) = false := by decide) (hcd : (x == ("__classdict__" : Str)) = false := by decide)
    (hs : swapsWith (.Call (.Attribute (.Name x p0) m p1) [] [] p2) none pos.line X.env = pure false := by rfl)
    (hbase : attributeBase (.Name x p0) m X.env (eval (.Name x p0) X.env) = eval (.Name x p0) X.env := by rfl)
    (hl : (p1.endLine == p2.line) = true := by rfl) : PSX X c q (.Expr (.Call (.Attribute (.Name x p0) m p1) [] [] p2) pos) (sMut i f []) :=
  PS.to (L2.ps_expr (L2.pe_bm0 PySem.F.plainAttrs_list slot hty hm (L2.pe_var hN hv hd hcd) hbase hl) hs) fun D σ H ⟨ρ, ph, w, h, hp⟩ => by
    unfold sMut at hp
    cases e0 : ρ[i]? with
    | none => rw [e0] at hp; exact (show False from hp).elim
    | some sl =>
      rw [e0] at hp
      cases sl with
      | own xs =>
        obtain ⟨p, vs, e1, o, hv, rr⟩ := h.env.ownd e0
        exact ⟨.ref p, e1, .inl ⟨rfl, vs, .inl (.inl hv)⟩, mut_end (ds := []) (us := []) hr e0 e1 h RepL.nil hp⟩
      | _ => exact (show False from hp).elim
end
end FL

/-! F15: enumerate over lists and tuples. -/
namespace FL
open PySem
open L2 (V Hp HO Cx Inv VK XK TE TT TA TS TI TG PE PT PA PS PSs PI PG Ends WX RelV Vals Rd upd upd_same upd_ne ne_of_none EP TP AP OpR R2 CallR FnOk Room Binds)
section
open PyProof PyProof.Rows
theorem enum1_meets {u : Value} {ob : Obj} {G : Heap → Prop} (B : Begins u ob G) :
    Meets (Builtin.«enumerate.__new__» ⟨[.type "enumerate", u], []⟩) fun _ R t => G t.heap ∧
      R (.ok (.ret (.ref (t.heap.push ob).objs.size))) { t with heap := (t.heap.push ob).push { cls := .type "enumerate", data := .fields #[.none, .bool false, .ref t.heap.objs.size, rawInt 0, .none, .none] } } :=
  .of_wp fun pr wo Ar R t hyp => by
    obtain ⟨hp, gs, dr, tk, os⟩ := t
    obtain ⟨g0, hyp⟩ := hyp
    have sub0 := sub_enumerate
    have it0 : ∀ {A' : Around} {E : Value → Shared → Prop} {Q : Value → Shared → Prop}, Q (.ref hp.objs.size) ⟨hp.push ob, gs, dr, tk, os⟩ → wpAny (model pr wo) A' (pyIter u) Q E ⟨hp, gs, dr, tk, os⟩ := fun q => B.iter pr wo _ _ ⟨hp, gs, dr, tk, os⟩ _ g0 q
    wp_walk using it0
    refine wpAny_stack_any fun stk => wpAny_pure ?_
    split
    · rename_i cc _ _ _ _ _
      cases (cc == Value.type "enumerate") <;> (wp_walk using it0; exact ⟨_, rfl, hyp⟩)
    · (wp_walk using it0; exact ⟨_, rfl, hyp⟩)
theorem enum1_call {prog : Program} {w : World} {A : Around} {E : Value → Shared → Prop} {s : Shared} {u : Value} {ob : Obj} {G : Heap → Prop} {Q : Value → Shared → Prop} (B : Begins u ob G) (g0 : G s.heap)
    (hyp : ∀ h', IsEnum h' (s.heap.objs.size + 1) s.heap.objs.size 0 .none → h'.get? s.heap.objs.size = some ob → (∀ b o, s.heap.get? b = some o → h'.get? b = some o) → Q (.ref (s.heap.objs.size + 1)) { s with heap := h' }) :
    wpAny (model prog w) A (call (.type "enumerate") [u]) Q E s := by
  refine callType_new F.called_enumerate (by decide) (F.typeCall_enumerate_1 _) (F.newCall_enumerate_1 _) (fun obj => F.args_object_init_2 obj _) F.entry_enumerate_new (enum1_meets B) ⟨g0, ?_⟩
  have sz : (s.heap.push ob).objs.size = s.heap.objs.size + 1 := Heap.size_push ..
  show _ ∧ _
  rw [sz]
  have en : IsEnum ((s.heap.push ob).push { cls := .type "enumerate", data := .fields #[.none, .bool false, .ref s.heap.objs.size, rawInt 0, .none, .none] }) (s.heap.objs.size + 1) s.heap.objs.size 0 .none := by
    have z := Heap.get?_push_size (s.heap.push ob) (o := { cls := .type "enumerate", data := .fields #[.none, .bool false, .ref s.heap.objs.size, rawInt 0, .none, .none] }) rfl
    rw [sz] at z
    exact z
  exact ⟨⟨_, en, rfl⟩, hyp _ en (Heap.get?_push_of_some _ (Heap.get?_push_size _ B.free)) fun b o z => Heap.get?_push_of_some _ (Heap.get?_push_of_some _ z)⟩
end
/-- a tuple's items, each in a new couple with its index -/
def ItE (K : PySem.W.Frag) (a : Addr) : L2.It :=
  ⟨fun i H => ∃ (xs : List V) (y : V), L2.SqT K H a xs ∧ xs[i]? = some y, fun i H v H' => ∃ T y, v = .ref T ∧ H T = none ∧ H' = upd H T (.tup [.int (i : Nat), y]) ∧ ∀ xs, L2.SqT K H a xs → xs[i]? = some y, fun i H => ∃ xs : List V, L2.SqT K H a xs ∧ xs.length ≤ i⟩
section
open PyProof PyProof.Rows L2
theorem walk_enumT {K : PySem.W.Frag} {a : Addr} {xs : List V} : Walk (ItE K a) xs.length (fun H => SqT K H a xs) (YPair (fun i => some (.int (i : Nat))) fun i => xs[i]?) := by
  refine ⟨fun i _ lt sq => ⟨xs, xs[i], sq, by simp [lt]⟩, fun _ sq => ⟨xs, sq, Nat.le_refl _⟩, fun i H v H' _ sq yl => ?_⟩
  obtain ⟨T, y, a1, a2, a3, a4⟩ := yl
  exact ⟨T, .int (i : Nat), y, a1, a2, a3, rfl, a4 xs sq⟩
theorem turn_enumT {P : Program} {w : World} {K : PySem.W.Frag} {elts : List Expr} {kk : Nat} {tpos : Pos} (a en ti : Addr) :
    Turn P w K (.Tuple elts kk tpos) (ItE K a) [en, ti] en fun i hp => (∃ old, IsEnum hp en ti ((i : Nat) : Int) old) ∧ hp.IsTupleIter ti a i ∧ en ≠ ti ∧ a ≠ ti where
  mem := List.mem_cons_self ..
  obj := fun i hp stt b mb => by
    obtain ⟨⟨old, isE⟩, ⟨o, ge, ce, de⟩, _⟩ := stt
    rcases List.mem_cons.mp mb with z | z
    · rw [z]
      exact ⟨_, isE, fun v q => nomatch q⟩
    · rw [List.mem_singleton.mp z]
      exact ⟨o, ge, fun v q => by rw [de] at q; cases q⟩
  keep := fun i hp hp' stt kp => ⟨⟨stt.1.choose, kp en (List.mem_cons_self ..) _ stt.1.choose_spec⟩, stt.2.1.at fun o q => kp ti (by simp) o q, stt.2.2⟩
  item := by
    intro X e1 e2 e3 cl i pins s σ H E Iv fps stt go
    subst e1 e2 e3
    obtain ⟨⟨old, isE⟩, isT, ne1, ne2⟩ := stt
    obtain ⟨xs, y, sq, gy⟩ := go
    obtain ⟨its, rv, tp, lz⟩ := Iv.tuple sq
    obtain ⟨u, gu, ru⟩ := rv.get gy
    have lt1 : en < s.heap.objs.size := Heap.lt_size isE
    have lt2 : ti < s.heap.objs.size := by obtain ⟨_, q, _⟩ := isT; exact Heap.lt_size q
    have tpl : s.heap.IsTuple a its.toArray := tp
    have ne3 : en ≠ a := fun z => by
      obtain ⟨o, q, qc, _⟩ := tpl
      rw [← z] at q
      have isE' := isE
      unfold IsEnum at isE'
      rw [isE'] at q
      cases q
      exact absurd (show (Value.type "enumerate") = .type "tuple" from qc) (by decide)
    have li : i < its.toArray.size := by
      have := (List.getElem?_eq_some_iff.mp gu).1
      simpa using this
    refine wpAny_pyNext_enum_itemC (Draws.tuple (show X.A.in1.handled = none from Iv.ok.hd cl) ti a ne2 its.toArray) isE ⟨isT, tpl⟩ li ne1 (by simp [ne1, ne3]) fun x h1 tk px out st1 gT szz kp => ?_
    have ex : x = u := by
      have : its[i]? = some x := by simpa using px
      rw [gu] at this
      exact (Option.some.inj this).symm
    subst ex
    refine ⟨_, rfl, wpAny_letOwnedTupleGo_enum (s := { s with heap := h1, toks := tk + 1 }) out fun h2 isE2 same => ?_⟩
    have gT2 : h2.get? s.heap.objs.size = some { cls := .type "tuple", data := .seq #[.int i tk, x] } := (same.2 _ (Nat.ne_of_gt lt1)).trans gT
    have nw : ObjOk X.prog X.w (upd H s.heap.objs.size (.tup [.int (i : Nat), y])) h2 s.heap.objs.size (.tup [.int (i : Nat), y]) := ⟨by show 2 ≤ sizeLine; decide, [.int i tk, x], .cons ⟨_, rfl⟩ (.cons ru .nil), ⟨_, gT2, rfl, _, rfl⟩⟩
    have I1 : Inv X pins σ (upd H s.heap.objs.size (.tup [.int (i : Nat), y])) { s with heap := h2, toks := tk + 1 } := Iv.turnedNew (ch := [en, ti]) (fun b o nb q => (same.2 b fun z => nb (by simp [z])).trans (kp b o (fun z => nb (by simp [z])) (fun z => nb (by simp [z])) q)) fps (Nat.le_refl _) nw
    refine ⟨.ref s.heap.objs.size, _, I1, rfl, ⟨_, y, rfl, Iv.hok.fresh (Nat.le_refl _), rfl, fun ys sy => by rw [Iv.tuple_inj sy sq]; exact gy⟩, ⟨⟨x, by rw [show ((i + 1 : Nat) : Int) = (i : Int) + 1 by omega]; exact isE2⟩, st1.1.at fun o q => (same.2 ti (Ne.symm ne1)).trans q, ne1, ne2⟩, fun b mb => ?_⟩
    have lb : b < s.heap.objs.size := by
      rcases List.mem_cons.mp mb with z | z
      · rw [z]; exact lt1
      · rw [List.mem_singleton.mp z]; exact lt2
    rw [upd_ne (Nat.ne_of_lt lb)]
    exact (fps b mb).1
  done := by
    intro X e1 e2 e3 cl i pins s σ H E Iv fps stt stp
    subst e1 e2 e3
    obtain ⟨⟨old, isE⟩, isT, ne1, ne2⟩ := stt
    obtain ⟨xs, sq, lx⟩ := stp
    obtain ⟨its, rv, tp, lz⟩ := Iv.tuple sq
    obtain ⟨f0, f1, f2, f3, f4, f5⟩ := fps ti (by simp)
    have ll := rv.length
    have tpl : s.heap.IsTuple a its.toArray := tp
    have hn : its.toArray[i]? = none := by simp; omega
    have hT : s.TypeIs (.ref en) "enumerate" := ⟨_, isE, rfl⟩
    unfold pyNext
    refine wpAny_bind (wpAny_attempt (wpAny_callSpecial?_slot (name := Str.ofString "__next__") hT F.slot_enumerate_next (wpAny_call_entry F.slot_enumerate_next hT F.entry_enumerate_next ?_ (F.args_enumerate_next_1 _))))
    show wpAny _ _ (field (.ref en) 2 >>= _) _ _ _
    refine wpAny_bind (wpAny_field isE rfl (x := .ref ti) rfl (wpAny_bind (wpAny_nextOf_tuple_end (show X.A.in1.handled = none from Iv.ok.hd cl) isT tpl hn fun h1 x1 eb xx => ?_)))
    obtain ⟨o, ge, ce⟩ := xx
    exact wpAny_bind (wpAny_isInstance (T := "StopIteration") (b := true) ⟨o, ge, ce⟩ isSubtype_stop (wpAny_pure ⟨rfl, Iv.turned (t' := s.toks) (fun b o nb q => eb b o nb q) f0 f1 f3 f4 f5⟩))
  self := fun A i s Q E stt q => wpAny_pyIter_enum stt.1.choose_spec q
end
end FL

/-! F16: enumerate as a rule. -/
namespace FL
open PySem
open L2 (It V Hp HO Cx Inv VK XK TE TT TA TS TI TG PE PT PA PS PSs PI PG Ends WX RelV Vals Rd upd upd_same upd_ne ne_of_none EP TP AP OpR R2 CallR FnOk Room Binds)
section
open PyProof PyProof.Rows
theorem pi_enumA {X : Cx} {e : Expr} {te : TE} {p pos tpos : Pos} {elts : List Expr} {kk : Nat} (hg : L2.Gl X "enumerate") (hm : X.mg "enumerate" = none) (he : PE X e te) (hst : starEach [e] X.env = [(false, eval e X.env)] := by rfl) (hs : starEach (e :: []) X.env = (false, eval e X.env) :: starEach [] X.env := by rfl) :
    PI X (.Tuple elts kk tpos) (.Call (.Name "enumerate" p) [e] [] pos) (fun σ H R => te σ H fun x H1 => ∃ a, x = .ref a ∧ ((∃ xs, L2.SqL X.K H1 a xs ∧ R (L2.Ite X.K a) H1) ∨ (∃ xs, L2.SqT X.K H1 a xs ∧ R (ItE X.K a) H1))) := by
  refine ⟨fun pins s σ H R I h => ?_⟩
  have ha : PA X [e] (fun σ H Q => te σ H fun x H1 => Q [x] H1) := PA.to (L2.pa_cons he L2.pa_nil hs) fun σ H Q z => z
  refine Call_ (L2.ld_blt I hg hm boot_enumerate (callWith_type1 (L2.thn (ha.run pos pins s σ H (fun vs H1 => match vs with | [x] => (∃ a, x = .ref a ∧ ((∃ xs, L2.SqL X.K H1 a xs ∧ R (L2.Ite X.K a) H1) ∨ (∃ xs, L2.SqT X.K H1 a xs ∧ R (ItE X.K a) H1))) | _ => False) I h) fun us t ⟨vs, H1, I1, r1, q1⟩ => ?_) hst rfl))
  have low : ∀ b, b = t.heap.objs.size + 1 ∨ b = t.heap.objs.size → t.heap.objs.size ≤ b := fun b z => by rcases z with z | z <;> omega
  cases r1 with
  | nil => exact False.elim q1
  | cons r rr =>
    cases rr with
    | cons _ _ => exact False.elim q1
    | nil =>
      obtain ⟨a, ex, q1⟩ := q1
      subst ex
      cases r
      rcases q1 with ⟨xs, sq, q⟩ | ⟨xs, sq, q⟩
      · obtain ⟨its, rv, pl, lz⟩ := I1.list sq
        refine enum1_call (begins_list a its.toArray) pl.isList fun h' en it kp => wpAny_pyIter_enum en ?_
        have it' : h'.IsListIter t.heap.objs.size a 0 := ⟨_, it, rfl, rfl⟩
        have I2 : Inv X pins σ H1 { t with heap := h' } := I1.kept (t' := t.toks) kp
        exact ⟨t.heap.objs.size + 1, [t.heap.objs.size + 1, t.heap.objs.size], _, _, H1, rfl, I2, L2.turn_enum a (t.heap.objs.size + 1) t.heap.objs.size, ⟨⟨.none, en⟩, it', Nat.succ_ne_self _⟩, fun b mb => I1.fpOk (low b (by simpa using mb)) (I1.hok.fresh (low b (by simpa using mb))), q⟩
      · obtain ⟨its, rv, pl, lz⟩ := I1.tuple sq
        have tpl : t.heap.IsTuple a its.toArray := pl
        refine enum1_call (begins_tuple a its.toArray) tpl fun h' en it kp => wpAny_pyIter_enum en ?_
        have it' : h'.IsTupleIter t.heap.objs.size a 0 := ⟨_, it, rfl, rfl⟩
        have lt : a < t.heap.objs.size := by obtain ⟨_, z, _⟩ := tpl; exact Heap.lt_size z
        have I2 : Inv X pins σ H1 { t with heap := h' } := I1.kept (t' := t.toks) kp
        exact ⟨t.heap.objs.size + 1, [t.heap.objs.size + 1, t.heap.objs.size], _, _, H1, rfl, I2, turn_enumT a (t.heap.objs.size + 1) t.heap.objs.size, ⟨⟨.none, en⟩, it', Nat.succ_ne_self _, Nat.ne_of_lt lt⟩, fun b mb => I1.fpOk (low b (by simpa using mb)) (I1.hok.fresh (low b (by simpa using mb))), q⟩
end
section
variable {K : PySem.W.Frag} {cm : Nat → Addr}
theorem feeds_enumT {a : Addr} {ds : List D} {vs : List V} : Feeds K cm (ItE K a) (enumL ds) (fun H N ph => TN K H N a vs ∧ RepL K cm H N ph ds vs) :=
  have el : (enumL ds).length = ds.length := by unfold enumL; simp
  ⟨fun h k m => ⟨h.1.keep k, h.2.keep k m ds vs⟩, fun H => L2.SqT K H a vs ∧ (enumL ds).length = vs.length, L2.YPair (fun i => some (.int (i : Nat))) (fun i => vs[i]?), ⟨fun i H hi h => by rw [h.2] at hi; exact (walk_enumT (K := K) (a := a) (xs := vs)).goes i H hi h.1, fun H h => by rw [h.2]; exact (walk_enumT (K := K) (a := a) (xs := vs)).stops H h.1, fun i H x H' hi h => by rw [h.2] at hi; exact (walk_enumT (K := K) (a := a) (xs := vs)).yields i H x H' hi h.1⟩,
    fun H N ph h => ⟨h.1.seq, el.trans h.2.length⟩, fun i d H N ph x H' h hn e y => by
      obtain ⟨T, x1, y1, rfl, hT, rfl, e1, e2⟩ := y
      obtain ⟨d1, e3, rfl⟩ := enumL_get e
      obtain ⟨v, e4, r⟩ := h.2.get e3
      have e2 : vs[i]? = some y1 := e2
      rw [e2] at e4; cases e4
      cases e1
      exact pair_new hn hT (by simp [Rep]) r⟩
variable {X : Cx} {c : Cfg}
theorem pix_enum {e : Expr} {fe : EF} {p pos tpos : Pos} {elts : List Expr} {kk : Nat} (hg : L2.Gl X "enumerate") (hm : X.mg "enumerate" = none) (he : PX X c e fe) (hst : starEach [e] X.env = [(false, eval e X.env)] := by rfl) (hs : starEach (e :: []) X.env = (false, eval e X.env) :: starEach [] X.env := by rfl) :
    PIX X c (.Tuple elts kk tpos) (.Call (.Name "enumerate" p) [e] [] pos) (iEnum fe) :=
  PI.to (pi_enumA hg hm he hst hs) fun σ H R ⟨O, ρ, ph, w, h⟩ => ⟨O, ρ, ph, w, (Run.bind (rel := relV X.K c.cm O) h).imp fun v H1 ⟨d, ph1, w1, e1, s1, r1, h1⟩ => by
    cases d with
    | lst ds =>
      obtain ⟨a, vs, rfl, ⟨n, t⟩, rl⟩ := lst_of r1
      exact ⟨a, rfl, .inl ⟨vs, .inl (.inl t), h1.ret (b := L2.Ite X.K a) ⟨_, ⟨.inl ⟨n, .inl t⟩, rl⟩, feeds_enum⟩⟩⟩
    | frz ds =>
      obtain ⟨a, vs, rfl, t, rl⟩ := frz_of r1
      exact ⟨a, rfl, .inl ⟨vs, t.seq, h1.ret (b := L2.Ite X.K a) ⟨_, ⟨t, rl⟩, feeds_enum⟩⟩⟩
    | tup ds =>
      obtain ⟨a, vs, rfl, t, rl⟩ := tup_of r1
      exact ⟨a, rfl, .inr ⟨vs, t.seq, h1.ret (b := ItE X.K a) ⟨_, ⟨t, rl⟩, feeds_enumT⟩⟩⟩
    | _ => exact h1.no⟩
end
end FL

/-! F18: a comprehension that is given to a name at once. -/
namespace FL
open PySem
open L2 (It V Hp HO Cx Inv VK XK TE TT TA TS TI TG PE PT PA PS PSs PI PG Ends WX RelV Vals Rd upd upd_same upd_ne ne_of_none EP TP AP OpR R2 CallR FnOk Room Binds)
section
variable {X : Cx} {c : Cfg} {q : Sq}
theorem own_tail {D : Ends} {ρ : Env} {σ : St} {H1 : Hp} {ph1 : Option Addr} {w1 : Wd} {i : Nat} {ds : List FL.D} {vs : List V} {p : Addr} (h1 : StS X.K c.cm c.xa q ρ ph1 w1 σ H1) (r : RepL X.K c.cm H1 (NN q ρ σ ph1) ph1 ds vs) (hpn : H1 p = none)
    (hp1 : Post2 X.K c.cm c.xa q c.Wx D H1 (NN q ρ σ ph1) ph1 (.nx (ρ.set i (.own ds)) w1)) : D.nx (σ.set i (some (.ref p))) (upd H1 p (.lst vs)) := by
  by_cases hl : i < ρ.length
  · obtain ⟨h2, k2⟩ := h1.seto hl hpn r
    exact hp1 _ _ ph1 h2 k2.kp
  · have e1 : ρ.set i (.own ds) = ρ := List.set_eq_of_length_le (by omega)
    have e2 : σ.set i (some (.ref p)) = σ := List.set_eq_of_length_le (by rw [h1.env.len]; omega)
    rw [e1] at hp1
    rw [e2]
    exact hp1 σ _ ph1 (h1.ext (ext_new hpn) .refl (h1.hand.new hpn)) (Ext.keep (ext_new hpn) .refl).kp
section
variable {i : Nat} {y : Str} {py : Pos} {elt tg iter : Expr} {ifs : List Expr} {scope : Scope} {own : List (Str × Nat)} {pos spos : Pos} {f : IF} {g : GF} {gt : TG} {is : List Nat} {t : TF} {fe : EF}
theorem psx_ownLc (hc : X.calm = true) (hN : X.N.Nodup) (hy : X.N[i]? = some y) (hyl : X.env.scope.names.lookup y = some .local) (hsw : swapsWith (.ListComp elt [⟨tg, iter, ifs, 0⟩] scope pos) (some (.Name y py)) spos.line X.env = pure true)
    (hi : PIX X c tg iter f) (ok : L2.BlkOk X.N X.env.scope scope own) (his : own.map (·.2) = is) (hg : ∀ (s : Shared) (H : Hp) (C : Addr) (cl : List (Str × Addr)) (fp : List Addr), PG (X.blk s H scope (compEnvC scope cl C X.env) fp) tg gt) (hG : TGX X.K c.cm g gt is)
    (ht : ∀ (s : Shared) (H : Hp) (C : Addr) (cl : List (Str × Addr)) (fp : List Addr), PTSX (X.blk s H scope (compEnvC scope cl C X.env) fp) ⟨c.cm, c.xa, noW⟩ ifs t)
    (he : ∀ (s : Shared) (H : Hp) (C : Addr) (cl : List (Str × Addr)) (fp : List Addr), PX (X.blk s H scope (compEnvC scope cl C X.env) fp) ⟨c.cm, c.xa, noW⟩ elt fe) (hs : ∀ x, foldedSetIterable iter X.env x = pure x := by intro _; rfl) :
    PSX X c q (.Assign [.Name y py] (.ListComp elt [⟨tg, iter, ifs, 0⟩] scope pos) spos) (sOwn i (nLc f is g t fe)) :=
  PS.to (L2.ps_setLc hc hN hy hyl hsw hi ok hg ht he hs) fun D σ H ⟨ρ, ph, w, h, hp⟩ => lc_read his hG σ H _ ⟨_, ρ, ph, w, (onE_run h hp).imp fun vs H1 ⟨ds, ph1, w1, r, h1, k, hp1⟩ p hpn => own_tail h1 r hpn hp1⟩
theorem psx_setLc (hc : X.calm = true) (hN : X.N.Nodup) (hy : X.N[i]? = some y) (hyl : X.env.scope.names.lookup y = some .local) (hsw : swapsWith (.ListComp elt [⟨tg, iter, ifs, 0⟩] scope pos) (some (.Name y py)) spos.line X.env = pure true)
    (hi : PIX X c tg iter f) (ok : L2.BlkOk X.N X.env.scope scope own) (his : own.map (·.2) = is) (hg : ∀ (s : Shared) (H : Hp) (C : Addr) (cl : List (Str × Addr)) (fp : List Addr), PG (X.blk s H scope (compEnvC scope cl C X.env) fp) tg gt) (hG : TGX X.K c.cm g gt is)
    (ht : ∀ (s : Shared) (H : Hp) (C : Addr) (cl : List (Str × Addr)) (fp : List Addr), PTSX (X.blk s H scope (compEnvC scope cl C X.env) fp) ⟨c.cm, c.xa, noW⟩ ifs t)
    (he : ∀ (s : Shared) (H : Hp) (C : Addr) (cl : List (Str × Addr)) (fp : List Addr), PX (X.blk s H scope (compEnvC scope cl C X.env) fp) ⟨c.cm, c.xa, noW⟩ elt fe) (hs : ∀ x, foldedSetIterable iter X.env x = pure x := by intro _; rfl) :
    PSX X c q (.Assign [.Name y py] (.ListComp elt [⟨tg, iter, ifs, 0⟩] scope pos) spos) (sSet i (eNew (nLc f is g t fe))) :=
  PS.to (L2.ps_setLc hc hN hy hyl hsw hi ok hg ht he hs) fun D σ H ⟨ρ, ph, w, h, hp⟩ => by
    have rr := (onE_run (rel := relV X.K c.cm (OwnS q.O0 ρ σ)) h hp)
    have r2 : Run X.K c.cm c.xa (OwnS q.O0 ρ σ) (relV X.K c.cm (OwnS q.O0 ρ σ)) c.Wx ρ σ ph H w (M.bind (nLc f is g t fe ρ) fun xs => M.ret (.lst xs)) _ := rr
    refine lc_read his hG σ H _ ⟨_, ρ, ph, w, (Run.bind (rel := relL X.K c.cm (OwnS q.O0 ρ σ)) r2).imp fun vs H1 ⟨ds, ph1, w1, e1, s1, r1, h1⟩ p hpn => ?_⟩
    obtain ⟨d, ph2, w2, r, h2, k, hp2⟩ := h1.lst hpn r1
    exact hp2 _ _ ph2 (h2.setd r) (keep_set fun _ z => by cases z).kp
end
end
end FL

/-! F17: repr of a list or a tuple, where nothing is being written out above: in the law's own def. The end for a law that has it. -/
namespace FL
open PySem
open L2 (V Hp HO Cx Inv VK XK TE TT TA TS TI TG PE PT PA PS PSs PI PG Ends WX RelV Vals Rd upd upd_same upd_ne ne_of_none EP TP AP OpR R2 CallR FnOk Room Binds)
theorem bt_repr : bootBuiltins "repr" = some (.builtin "repr") := by decide +kernel
def reprK (d : D) : M D := if D.flat 60 d = true ∧ d.py.showable = true ∧ d.py.shown.length ≤ sizeLine then M.ret (.str d.py.shown) else M.fail
def reprL : List D → M D
  | [.lst xs] => reprK (.lst xs)
  | [.tup xs] => reprK (.tup xs)
  | _ => M.fail
def rShow (K : PySem.W.Frag) : List V → Hp → VK → Prop := fun xs H Q => ∃ a d, xs = [V.ref a] ∧ L2.Dp K H (.ref a) d ∧ d.showable = true ∧ d.canLay0 = true ∧ d.depth ≤ 60 ∧ d.shown.length ≤ sizeLine ∧ Q (.str d.shown) H
theorem call_show {X : Cx} (hG : X.A.guards = some []) (hu : X.A.units + 64 < cLine) : CallR X (.builtin "repr") (rShow X.K) := by
  intro pins s σ H xs us Q I r h
  obtain ⟨a, d, rfl, hd, hs, hl, hdp, hz, q⟩ := h
  obtain ⟨u, rfl, ru⟩ := L2.vals1 r
  obtain rfl : u = Value.ref a := ru
  obtain ⟨as, rd⟩ := L2.Dp.reads I d _ _ hd rfl
  exact repr_of_reads' rd hs (PyData.noDict_hsm (PyData.hasDict_of_canLay d hl)) hG (by omega) (fun _ _ e => e) (fun h' t tk hk => ⟨.str _, H, I.kept hk, ⟨t, rfl⟩, q⟩) hz
theorem show_ok {K : PySem.W.Frag} {cm : Nat → Addr} : OpL K cm reprL (rShow K) := by
  intro xa O Wx ρ σ ph H w Q ds vs r h
  match ds, h with
  | [.lst xs], h =>
    obtain ⟨v, vs', rfl, r1, r2⟩ := r.uncons
    cases r2.unnil
    have h : Run K cm xa O (relV K cm O) Wx ρ σ ph H w (reprK (.lst xs)) Q := h
    unfold reprK at h
    by_cases hc : D.flat 60 (.lst xs) = true ∧ (D.lst xs).py.showable = true ∧ (D.lst xs).py.shown.length ≤ sizeLine
    · rw [if_pos hc] at h
      obtain ⟨a, ws, rfl, _⟩ := lst_of r1
      obtain ⟨l1, l2⟩ := py_lay 60 _ hc.1
      exact ⟨a, _, rfl, dp_of 60 _ _ hc.1 r1, hc.2.1, l1, l2, hc.2.2, h.ret (by show Rep K cm _ _ _ _ _; simp only [Rep])⟩
    · rw [if_neg hc] at h; exact h.no
  | [.tup xs], h =>
    obtain ⟨v, vs', rfl, r1, r2⟩ := r.uncons
    cases r2.unnil
    have h : Run K cm xa O (relV K cm O) Wx ρ σ ph H w (reprK (.tup xs)) Q := h
    unfold reprK at h
    by_cases hc : D.flat 60 (.tup xs) = true ∧ (D.tup xs).py.showable = true ∧ (D.tup xs).py.shown.length ≤ sizeLine
    · rw [if_pos hc] at h
      obtain ⟨a, ws, rfl, _⟩ := tup_of r1
      obtain ⟨l1, l2⟩ := py_lay 60 _ hc.1
      exact ⟨a, _, rfl, dp_of 60 _ _ hc.1 r1, hc.2.1, l1, l2, hc.2.2, h.ret (by show Rep K cm _ _ _ _ _; simp only [Rep])⟩
    · rw [if_neg hc] at h; exact h.no
  | [], h => exact h.no
  | x :: _ :: _, h => cases x <;> exact h.no
  | [.non], h => exact h.no
  | [.bl _], h => exact h.no
  | [.int _], h => exact h.no
  | [.str _], h => exact h.no
  | [.frz _], h => exact h.no
  | [.ins _ _ _], h => exact h.no
  | [.hand], h => exact h.no
theorem px_repr {X : Cx} {c : Cfg} {e : Expr} {fe : EF} {p pos : Pos} (hG : X.A.guards = some []) (hu : X.A.units + 64 < cLine) (hg : L2.Gl X "repr") (hm : X.mg "repr" = none) (he : PX X c e fe) (hs : starEach [e] X.env = (false, eval e X.env) :: starEach [] X.env := by rfl) : PX X c (.Call (.Name "repr" p) [e] [] pos) (eCall reprL [fe]) :=
  px_callB (call_show hG hu) show_ok hg hm bt_repr (pax_cons he pax_nil hs) (he := hs)

/-! ### a def called from outside alone -/
section
open PySem.Spec PyProof.Rows
variable {P : Program} {w : World} {K : PySem.W.Frag} {mg : Str → Option Value} {base : Heap} {cm : Nat → Addr}
/-- what the outermost def promises, called with one value and nothing around it -/
structure TopOk (P : Program) (w : World) (K : PySem.W.Frag) (mg : Str → Option Value) (base : Heap) (f : Addr) (fd : FuncData) (x : Str) (sp : L2.Sp) : Prop where
  go : ∀ (t : Shared) (G : Hp) (z : Value) (y : V) (R : VK) (B : XK), L2.Env0 P w K mg base callerA [] t G → BindsTo t fd ⟨[z], []⟩ [(x, z)] → RelV y z → sp [y] G R B →
    codeAny (model P w) callerA (.call (.ref f) ⟨[z], []⟩) (L2.CR (L2.CX P w) [] P w G t R B) t
theorem top_of {x qual y : Str} {params : Arguments} {body : List Stmt} {scope : Scope} {f : Addr} {fd : FuncData} {N : List Str} {k : Nat} {b : SF} (F : L2.FunD K x qual params body scope [] [] f fd) (S : L2.FnScope N [y] scope) (hn : 1 ≤ N.length) (room : Room (k + 1) callerA)
    (hb : ∀ (cdv : Value) (t : Shared) (G : Hp) (B : XK) (q : Sq), Room k (callerA.deeper (envOfC qual scope t.heap.objs.size f cdv)) →
      PSSX (L2.cxOf (L2.CX P w) P w K mg base N qual scope f cdv callerA [] t G B) ⟨cm, none, fun cls d _ G' => B cls d G'⟩ q body b) :
    TopOk P w K mg base f fd y (spX K cm 1 (callF N.length b)) := by
  obtain ⟨oc, od, dV, kV, doc, pm, an, cdv, ct, osl, rfl, lk, code, _, _⟩ := F.ex
  refine ⟨fun t G z v R B start bind rv sp => ?_⟩
  have here : ∀ a o, base.get? a = some o → t.heap.get? a = some o := fun a o e => (start.bs a o e).1
  have frag : K.In t.heap := start.mod.kin.keeps here
  have one : ∀ yz ∈ [y].zip [z], scope.names.lookup yz.1 = some .local ∨ (scope.names.lookup yz.1 = some .cell ∧ ((cellsFrom (t.heap.objs.size + 1) scope.names []).lookup yz.1).isSome = true) := by
    rintro ⟨n, u⟩ m
    rcases S.par n (List.of_mem_zip m).1 with l | l
    · exact .inl l
    · exact .inr ⟨l, PySem.W.cellsFrom_some _ _ _ (.inl l)⟩
  refine codeAny_call_function room.depth (frag _ _ lk) rfl S.co S.gen rfl (PySem.W.codeRec_of frag code) (bind _ _ _ _ ?_)
  refine wpAny_newFunctionEnv_cells S.kind one fun env same t1 enter => ?_
  subst same
  refine ⟨(start.mod.nolimit.keeps here).keeps enter.toInCall.keep, codeAny_func ?_⟩
  obtain ⟨_, O, ds, ph, wd, tr, hand, r, post⟩ := sp
  have go := hb cdv t G B ⟨G, O, ph⟩ (room.deeper _)
  have first : Inv (L2.cxOf (L2.CX P w) P w K mg base N qual scope f cdv callerA [] t G B) [] (L2.start N [v]) G t1 := L2.inv_start S room.hd start rfl (.cons rv .nil) enter
  have len : ds.length = 1 := r.length
  refine wpAny_mono (go.run [] t1 (L2.start N [v]) G { nx := fun _ G' => R .non G', rt := R } first ⟨vals ds ++ List.replicate (N.length - ds.length) Slot.none, ph, wd, start_sts (by omega) tr hand r, ?_⟩) (fun fl t2 out => ?_) fun e t2 out => out
  · unfold callF at post
    cases e : b (vals ds ++ List.replicate (N.length - ds.length) Slot.none) wd with
    | nx ρ' w' =>
      rw [e] at post
      intro σ' H' ph' s1 k1
      exact post .non H' ph' s1.base s1.phs (s1.hand.less fun _ z => .inl z) (by simp [Rep])
    | rt d w' =>
      rw [e] at post
      intro u H' ph' x1 s1 hk rv
      exact post u H' ph' x1 s1 hk rv
    | ex c ns xs ρ' w' =>
      rw [e] at post
      intro σ' H' ph' dd us s1 k1 hd l rv
      exact post dd H' ph' us s1.base s1.phs (s1.hand.less fun _ z => .inl z) hd l (rv.keep (Keep.less (OO.mono fun _ z => .inl z)) (fun _ e => e) xs us)
    | bk ρ' w' => rw [e] at post; exact (show False from post).elim
    | ct ρ' w' => rw [e] at post; exact (show False from post).elim
    | bad => rw [e] at post; exact (show False from post).elim
  · have done : ∀ {σ2 : St} {G2 : Hp} {v2 : V} {u2 : Value}, Inv (L2.cxOf (L2.CX P w) P w K mg base N qual scope f cdv callerA [] t G B) [] σ2 G2 t2 → RelV v2 u2 → R v2 G2 → L2.CE [] P w G t R u2 t2 :=
      fun {σ2 G2 v2 u2} J rel qq => ⟨v2, G2, J.os, J.bare, J.base, J.hok, rel, qq⟩
    cases fl with
    | next =>
      obtain ⟨σ2, G2, J, qq⟩ := out
      exact done (v2 := V.non) (u2 := Value.none) J rfl qq
    | ret u =>
      obtain ⟨v2, σ2, G2, J, rel, qq⟩ := out
      exact done J rel qq
    | brk => exact (show False from out.elim fun _ z => z.elim fun _ z => z.2).elim
    | cont => exact (show False from out.elim fun _ z => z.elim fun _ z => z.2).elim
end

/-! ### the end for such a law -/
section
open PySem.Spec PySem.W PySem.Calls PyProof.Rows
variable {P : Program} {w : World} {K : PySem.W.Frag} {mg mb : Str → Option Value} {f a : Addr} {fd : FuncData} {x : Str} {sp : L2.Sp} {t : Shared} {us : List Value} {ms : List Int}
/-- the heap G tracks the script at most -/
structure Scr (K : PySem.W.Frag) (t : Shared) (a : Addr) (us : List Value) (ms : List Int) (P : Program) (w : World) (G : Hp) : Prop where
  few : L2.Only G
  seq : L2.SqL K G a (ms.map V.int)
  ok : L2.HOk P w G t.heap
  at_ : ∀ b, G b ≠ none → b = a
  off : G a ≠ none → K.lookup a = none
theorem scr_of (frag : K.In t.heap) (obj : t.heap.get? a = some { cls := .type "list", data := .seq us.toArray }) (i : IntsAre us ms) (l : ms.length ≤ sizeLine) : ∃ G, Scr K t a us ms P w G := by
  have rv := L2.vals_ints i
  cases own : K.lookup a with
  | none =>
    refine ⟨fun b => if b = a then some (.frz { cls := .type "list", data := .seq us.toArray } (.lst (ms.map V.int))) else none, ⟨fun b => ?_, .inl (.inr ⟨_, if_pos rfl⟩), fun b o e => ?_, fun b e => ?_, fun _ => own⟩⟩
    · rcases Decidable.em (b = a) with e | e
      · exact .inr ⟨_, _, if_pos e⟩
      · exact .inl (if_neg e)
    · rcases Decidable.em (b = a) with q | q
      · have e2 := (if_pos q).symm.trans e
        cases e2
        subst q
        exact ⟨obj, by rw [List.length_map]; exact l, us, _, rv, obj⟩
      · cases (if_neg q).symm.trans e
    · exact Decidable.byContradiction fun q => e (if_neg q)
  | some o =>
    have e := frag a o own
    rw [obj] at e
    cases e
    exact ⟨fun _ => none, fun _ => .inl rfl, .inr ⟨_, us.toArray, _, own, rfl, rfl, rfl, by rw [List.size_toArray, i.length]; exact l, by simpa using rv⟩, fun _ _ e => (nomatch e), fun _ e => absurd rfl e, fun e => absurd rfl e⟩
theorem top_call (frag : K.In t.heap) (gl : t.heap.Ns mainGlobals mg) (bl : t.heap.Ns builtinsNs mb) (bb : ∀ y : Str, y ≠ "__name__" → mb y = bootBuiltins y) (nolim : t.heap.NoLimit) (gens : t.gens = #[])
    (obj : t.heap.get? a = some { cls := .type "list", data := .seq us.toArray }) (i : IntsAre us ms) (l : ms.length ≤ sizeLine)
    (F : ∀ base : Heap, K.In base → base.Ns mainGlobals mg → TopOk P w K mg base f fd x sp) (bind : ∀ (t : Shared) (z : Value), BindsTo t fd ⟨[z], []⟩ [(x, z)])
    (promise : ∀ G : Hp, L2.SqL K G a (ms.map V.int) → sp [.ref a] G (fun v _ => v = .bl true) fun _ _ _ => False) :
    codeAny (model P w) callerA (.call (.ref f) ⟨[.ref a], []⟩) (fun r t' => r = .ok (.ret (.bool true)) ∧ OldK t.heap t'.heap ∧ t'.os = t.os ∧ AllBare t'.gens) t := by
  obtain ⟨G, S⟩ := scr_of (P := P) (w := w) frag obj i l
  have free : ∀ {b : Addr} {o : Obj}, t.heap.get? b = some o → (b = a → False) → (L2.hidT t.heap G).get? b = some o := fun {b o} e ne => L2.hidT_get e (Decidable.byContradiction fun q => ne (S.at_ b q))
  have ns2 : ∀ {b : Addr} {m : Str → Option Value}, t.heap.Ns b m → (L2.hidT t.heap G).Ns b m := fun {b m} ⟨o, es, ep, e, d, r⟩ => ⟨o, es, ep, free e (fun q => by subst q; rw [obj] at e; cases e; exact (nomatch (show Data.seq us.toArray _ = Data.dict es ep from d))), d, r⟩
  have frag2 : K.In (L2.hidT t.heap G) := fun b o e => by
    rcases Decidable.em (G b = none) with n | n
    · exact L2.hidT_get (frag b o e) n
    · have q := S.at_ b n
      subst q
      rw [S.off n] at e
      cases e
  have mod : L2.Mod K mg (L2.hidT t.heap G) := ⟨frag2, ns2 gl, ⟨mb, ns2 bl, bb⟩, let ⟨mc, n1, n2⟩ := nolim; ⟨mc, ns2 n1, n2⟩⟩
  have start : L2.Env0 P w K mg (L2.hidT t.heap G) callerA [] t G := ⟨rfl, mod, fun _ _ e => L2.of_hidT e, Nat.le_of_eq (L2.hidT_size _ _), trivial, fun _ m => (nomatch m), S.ok, .of_eq gens⟩
  refine codeAny_mono ((F _ frag2 (ns2 gl)).go t G (.ref a) (.ref a) _ _ start (bind t (.ref a)) rfl (promise G S.seq)) fun r t' out => ?_
  match r, out with
  | .error e, out => exact (cx_end out).elim
  | .ok .next, out => exact (show False from out).elim
  | .ok .brk, out => exact (show False from out).elim
  | .ok .cont, out => exact (show False from out).elim
  | .ok (.ret u), out =>
    obtain ⟨v, G', os, bare, un, ok', rel, q⟩ := out
    obtain rfl : v = .bl true := q
    obtain rfl : u = Value.bool true := rel
    refine ⟨rfl, OldK.of_keep fun b o e => ?_, os, bare⟩
    cases n : G b with
    | none => exact un.keep b o e n (fun z => (nomatch z)) (fun z => (nomatch z))
    | some y =>
      rcases S.few b with z | ⟨ob, xs, z⟩
      · rw [n] at z; cases z
      · obtain ⟨e1, _⟩ := S.ok b _ z
        obtain ⟨e2, _⟩ := ok' b _ (un.frzs b ob _ z)
        rw [e] at e1
        cases e1
        exact e2
theorem law_endT {l : PySem.W.OpenLaw} {n : Nat} {q : PySem.Program} {loose : List Str} {XP : (Str → Option Value) → Heap → Prop} {YP : World → Heap → Prop} {d : DefRec} {K : Params → PySem.W.Frag} {F : List D → M D} (hn : l.most = some n) (hn2 : n ≤ sizeLine) (hdf : d.params.defaults = [])
    (hY : ∀ (w : World) (h : Heap), YP w h → (K w.params).In h) (plain : ∀ ns : List Int, ns.length ≤ n → ∃ w', F [.frz (ns.map D.int)] none = .ok (.bl true) w')
    (G : ∀ (w : World) (mg : Str → Option Value) (h : Heap), (K w.params).In h → h.Ns mainGlobals mg → ∃ (cm : Nat → Addr) (f : Addr) (fd : FuncData), mg d.name = some (.ref f) ∧ (∀ (s : Shared) (u : Value), BindsTo s fd ⟨[u], []⟩ [("script", u)]) ∧
      ∀ base : Heap, (K w.params).In base → base.Ns mainGlobals mg → TopOk l.prog w (K w.params) mg base f fd "script" (spX (K w.params) cm 1 F)) :
    PySem.W.WalkO q loose XP YP l.row.toRowW d [] (fun f vs => PySem.call f vs) := by
  refine Att.attach_call hn hdf fun w s0 s1 mg mb fa o pm cd doc a vs ns T Y ho hd hcd hmg hobj hi hl hg => ?_
  obtain ⟨cm, f, fd, e, hb, hF⟩ := G w mg _ (hY w _ Y) T.T.g
  rw [hmg] at e
  cases e
  exact top_call (hY w _ Y) T.T.g T.T.b T.T.builtins T.T.nolimit hg hobj hi (Nat.le_trans hl hn2) hF hb fun H S => sp_end plain H a ns hl S
theorem law_finT {P : Program} {w : World} {K : PySem.W.Frag} {mg : Str → Option Value} {cm : Nat → Addr} {st : Stmt} {F : List D → M D} (hd : ∃ f fd, DefAt K mg "law" st [] f fd)
    (hb : ∀ (kV doc pm : Value) (an : Option Addr) (cdv ct : Value) (us : List Value), us.length = (["script"] : List Str).length → bindArgs (PySem.W.fnOf "law" "law" (L2.defArgs st) (L2.defBody st) (L2.defScope st) .none kV doc pm an cdv ct) ⟨us, []⟩ = pure ((["script"] : List Str).zip us))
    (G : ∀ (base : Heap) (f : Addr) (fd : FuncData), DefAt K mg "law" st [] f fd → TopOk P w K mg base f fd "script" (spX K cm 1 F)) : ∃ (cm : Nat → Addr) (f : Addr) (fd : FuncData), mg "law" = some (.ref f) ∧ (∀ (s : Shared) (u : Value), BindsTo s fd ⟨[u], []⟩ [("script", u)]) ∧
      ∀ base : Heap, K.In base → base.Ns mainGlobals mg → TopOk P w K mg base f fd "script" (spX K cm 1 F) := by
  obtain ⟨f, fd, A⟩ := hd
  exact ⟨cm, f, fd, A.m, fun s u => A.F.bindsA hb s [u] rfl, fun base _ _ => G base f fd A⟩
end
end FL

/-! P1: mirrors run, step by step, in plain Lean. -/
namespace FL
open PySem
section
variable {α β : Type}
def bindK (r : R α) (f : α → M β) : R β := match r with
  | .ok a w => f a w
  | .ex c ns xs w => .ex c ns xs w
  | .bad => .bad
theorem bind_w (m : M α) (f : α → M β) (w : Wd) : M.bind m f w = bindK (m w) f := rfl
theorem bindK_ok (a : α) (w : Wd) (f : α → M β) : bindK (.ok a w) f = f a w := rfl
theorem bindK_ex (c : Nat) (ns : List Str) (xs : List D) (w : Wd) (f : α → M β) : bindK (.ex c ns xs w) f = .ex c ns xs w := rfl
theorem ret_w (a : α) (w : Wd) : M.ret a w = .ok a w := rfl
theorem fail_w (w : Wd) : (M.fail : M α) w = .bad := rfl
theorem if_w (p : Prop) [Decidable p] (a b : M α) (w : Wd) : (if p then a else b) w = if p then a w else b w := by split <;> rfl
end
section
variable {ρ : Env} {w : Wd}
def varK (s : Option Slot) (w : Wd) : R D := match s with
  | some (.val d) => .ok d w
  | _ => .bad
theorem eVar_w (i : Nat) : eVar i ρ w = varK ρ[i]? w := by
  unfold eVar varK
  cases ρ[i]? with
  | none => rfl
  | some s => cases s <;> rfl
theorem varK_v (d : D) : varK (some (.val d)) w = .ok d w := rfl
theorem eC_w (d : D) : eC d ρ w = .ok d w := rfl
theorem eUn_w (f : D → M D) (a : EF) : eUn f a ρ w = bindK (a ρ w) f := rfl
theorem eBin_w (f : D → D → M D) (a b : EF) : eBin f a b ρ w = bindK (a ρ w) fun x => M.bind (b ρ) fun y => f x y := rfl
theorem evs0_w : evs [] ρ w = .ok [] w := rfl
theorem evs1_w (e : EF) (es : List EF) : evs (e :: es) ρ w = bindK (e ρ w) fun x => M.bind (evs es ρ) fun xs => M.ret (x :: xs) := rfl
theorem eTup_w (es : List EF) : eTup es ρ w = bindK (evs es ρ w) fun xs => M.ret (.tup xs) := rfl
theorem eLst_w (es : List EF) : eLst es ρ w = bindK (evs es ρ w) fun xs => M.ret (.lst xs) := rfl
theorem eCall_w (F : List D → M D) (es : List EF) : eCall F es ρ w = bindK (evs es ρ w) F := rfl

def ifE (r : R Bool) (a b : EF) (ρ : Env) : R D := match r with
  | .ok true w => a ρ w
  | .ok false w => b ρ w
  | .ex c ns xs w => .ex c ns xs w
  | .bad => .bad
theorem eIf_w (t : TF) (a b : EF) : eIf t a b ρ w = ifE (t ρ w) a b ρ := by
  show M.bind (t ρ) _ w = _
  rw [bind_w]
  cases t ρ w with
  | ok c w' => cases c <;> rfl
  | ex => rfl
  | bad => rfl
theorem ifE_t (a b : EF) : ifE (.ok true w) a b ρ = a ρ w := rfl
theorem ifE_f (a b : EF) : ifE (.ok false w) a b ρ = b ρ w := rfl
def andE (r : R D) (b : EF) (ρ : Env) : R D := match r with
  | .ok (.bl true) w => b ρ w
  | .ok (.bl false) w => .ok (.bl false) w
  | .ex c ns xs w => .ex c ns xs w
  | _ => .bad
theorem eAnd_w (a b : EF) : eAnd a b ρ w = andE (a ρ w) b ρ := by
  show M.bind (a ρ) _ w = _
  rw [bind_w]
  cases a ρ w with
  | ok d w' => cases d with
    | bl c => cases c <;> rfl
    | _ => rfl
  | ex => rfl
  | bad => rfl
theorem andE_t (b : EF) : andE (.ok (.bl true) w) b ρ = b ρ w := rfl
theorem andE_f (b : EF) : andE (.ok (.bl false) w) b ρ = .ok (.bl false) w := rfl
def orE (r : R D) (b : EF) (ρ : Env) : R D := match r with
  | .ok (.bl true) w => .ok (.bl true) w
  | .ok (.bl false) w => b ρ w
  | .ex c ns xs w => .ex c ns xs w
  | _ => .bad
theorem eOr_w (a b : EF) : eOr a b ρ w = orE (a ρ w) b ρ := by
  show M.bind (a ρ) _ w = _
  rw [bind_w]
  cases a ρ w with
  | ok d w' => cases d with
    | bl c => cases c <;> rfl
    | _ => rfl
  | ex => rfl
  | bad => rfl
theorem orE_t (b : EF) : orE (.ok (.bl true) w) b ρ = .ok (.bl true) w := rfl
theorem orE_f (b : EF) : orE (.ok (.bl false) w) b ρ = b ρ w := rfl
theorem eNot_w (t : TF) : eNot t ρ w = bindK (t ρ w) fun c => M.ret (.bl (!c)) := rfl
def chainK (r : R D) (g : D → D → M D) (y : D) (c : EF) (ρ : Env) : R D := match r with
  | .ok (.bl true) w => bindK (c ρ w) fun z => g y z
  | .ok (.bl false) w => .ok (.bl false) w
  | .ex c ns xs w => .ex c ns xs w
  | _ => .bad
def chainM (f g : D → D → M D) (c : EF) (ρ : Env) (x y : D) : M D := fun w => chainK (f x y w) g y c ρ
theorem chainM_w (f g : D → D → M D) (c : EF) (x y : D) : chainM f g c ρ x y w = chainK (f x y w) g y c ρ := rfl
theorem eChain_w (f g : D → D → M D) (a b c : EF) : eChain f g a b c ρ w = bindK (a ρ w) fun x => M.bind (b ρ) fun y => chainM f g c ρ x y := by
  show M.bind (a ρ) _ w = _
  rw [bind_w]
  congr 1
  funext x
  congr 1
  funext y w'
  rw [bind_w, chainM_w]
  cases f x y w' with
  | ok d w2 => cases d with
    | bl k => cases k <;> rfl
    | _ => rfl
  | ex => rfl
  | bad => rfl
theorem chainK_t (g : D → D → M D) (y : D) (c : EF) : chainK (.ok (.bl true) w) g y c ρ = bindK (c ρ w) fun z => g y z := rfl
theorem chainK_f (g : D → D → M D) (y : D) (c : EF) : chainK (.ok (.bl false) w) g y c ρ = .ok (.bl false) w := rfl
theorem eNew_w (f : Env → M (List D)) : eNew f ρ w = bindK (f ρ w) fun ys => M.ret (.lst ys) := rfl
def handK (r : R (List D)) : R D := match r with
  | .ok xs none => .ok .hand (some xs)
  | .ok _ (some _) => .bad
  | .ex c ns xs w => .ex c ns xs w
  | .bad => .bad
theorem eHand_w (es : List EF) : eHand es ρ w = handK (evs es ρ w) := by
  unfold eHand M.bind handK
  cases evs es ρ w with
  | ok xs w' => cases w' <;> rfl
  | ex => rfl
  | bad => rfl
theorem handK_ok (xs : List D) : handK (.ok xs none) = .ok .hand (some xs) := rfl
def xfK (s : Option Slot) (f : Str) (w : Wd) : R D := match s with
  | some (.exc _ ns xs) => (match fldOf f ns xs with | some d => .ok d w | none => .bad)
  | _ => .bad
theorem eXf_w (i : Nat) (f : Str) : eXf i f ρ w = xfK ρ[i]? f w := by
  unfold eXf xfK
  cases ρ[i]? with
  | none => rfl
  | some s => cases s with
    | exc c ns xs => simp only; cases fldOf f ns xs <;> rfl
    | _ => rfl
theorem xfK_v (c : Nat) (ns : List Str) (xs : List D) (f : Str) {d : D} (h : fldOf f ns xs = some d) : xfK (some (.exc c ns xs)) f w = .ok d w := by unfold xfK; simp only [h]
/-! tests -/
theorem tVal_w (e : EF) : tVal e ρ w = bindK (e ρ w) boolOf := rfl
theorem tTru_w (e : EF) : tTru e ρ w = bindK (e ρ w) truth := rfl
theorem tNot_w (t : TF) : tNot t ρ w = bindK (t ρ w) fun c => M.ret (!c) := rfl
theorem tYes_w : tYes ρ w = .ok true w := rfl
def andT (r : R Bool) (b : TF) (ρ : Env) : R Bool := match r with
  | .ok true w => b ρ w
  | .ok false w => .ok false w
  | .ex c ns xs w => .ex c ns xs w
  | .bad => .bad
def orT (r : R Bool) (b : TF) (ρ : Env) : R Bool := match r with
  | .ok true w => .ok true w
  | .ok false w => b ρ w
  | .ex c ns xs w => .ex c ns xs w
  | .bad => .bad
theorem tAnd_w (a b : TF) : tAnd a b ρ w = andT (a ρ w) b ρ := by
  show M.bind (a ρ) _ w = _
  rw [bind_w]
  cases a ρ w with
  | ok c w' => cases c <;> rfl
  | ex => rfl
  | bad => rfl
theorem tOr_w (a b : TF) : tOr a b ρ w = orT (a ρ w) b ρ := by
  show M.bind (a ρ) _ w = _
  rw [bind_w]
  cases a ρ w with
  | ok c w' => cases c <;> rfl
  | ex => rfl
  | bad => rfl
theorem andT_t (b : TF) : andT (.ok true w) b ρ = b ρ w := rfl
theorem andT_f (b : TF) : andT (.ok false w) b ρ = .ok false w := rfl
theorem orT_t (b : TF) : orT (.ok true w) b ρ = .ok true w := rfl
theorem orT_f (b : TF) : orT (.ok false w) b ρ = b ρ w := rfl
theorem boolOf_w (b : Bool) : boolOf (.bl b) w = .ok b w := rfl
theorem truth_bl (b : Bool) : truth (.bl b) w = .ok b w := rfl
theorem truth_int (i : Int) : truth (.int i) w = .ok (i != 0) w := rfl
theorem truth_non : truth .non w = .ok false w := rfl
theorem truth_lst (xs : List D) : truth (.lst xs) w = .ok (!xs.isEmpty) w := rfl
theorem truth_tup (xs : List D) : truth (.tup xs) w = .ok (!xs.isEmpty) w := rfl
theorem truth_frz (xs : List D) : truth (.frz xs) w = .ok (!xs.isEmpty) w := rfl
/-! data -/
theorem add_int (i j : Int) : addD (.int i) (.int j) w = .ok (.int (i + j)) w := rfl
theorem sub_int (i j : Int) : subD (.int i) (.int j) w = .ok (.int (i - j)) w := rfl
theorem neg_int (i : Int) : negD (.int i) w = .ok (.int (-i)) w := rfl
theorem lt_int (i j : Int) : ltD (.int i) (.int j) w = .ok (.bl (decide (i < j))) w := rfl
theorem le_int (i j : Int) : leD (.int i) (.int j) w = .ok (.bl (decide (i ≤ j))) w := rfl
theorem gt_int (i j : Int) : gtD (.int i) (.int j) w = .ok (.bl (decide (j < i))) w := rfl
theorem ge_int (i j : Int) : geD (.int i) (.int j) w = .ok (.bl (decide (j ≤ i))) w := rfl
theorem isNon_w (a : D) : isNonD a .non w = .ok (.bl a.isNon) w := rfl
theorem notNon_w (a : D) : notNonD a .non w = .ok (.bl (!a.isNon)) w := rfl
theorem is_w (a b : Bool) : isD (.bl a) (.bl b) w = .ok (.bl (decide (a = b))) w := rfl
theorem isNot_w (a b : Bool) : isNotD (.bl a) (.bl b) w = .ok (.bl (!decide (a = b))) w := rfl
theorem int_w (i : Int) : intD (.int i) w = .ok (.int i) w := rfl
theorem abs_w (i : Int) : absD (.int i) w = .ok (.int (if i < 0 then -i else i)) w := rfl
theorem gcd_w (a b : Int) : gcdD (.int a) (.int b) w = .ok (.int ((Nat.gcd a.natAbs b.natAbs : Nat) : Int)) w := rfl
theorem tup_w (xs : List D) : tupD (.lst xs) w = .ok (.tup xs) w := rfl
theorem tupt_w (xs : List D) : tupD (.tup xs) w = .ok (.tup xs) w := rfl
theorem list_w (xs : List D) : listD (.tup xs) w = .ok (.lst xs) w := rfl
theorem listl_w (xs : List D) : listD (.lst xs) w = .ok (.lst xs) w := rfl
theorem len_lst (xs : List D) : lenD (.lst xs) w = .ok (.int xs.length) w := rfl
theorem len_tup (xs : List D) : lenD (.tup xs) w = .ok (.int xs.length) w := rfl
theorem len_frz (xs : List D) : lenD (.frz xs) w = .ok (.int xs.length) w := rfl
theorem un1_w (f : D → M D) (d : D) : un1 f [d] w = f d w := rfl
theorem bin2_w (f : D → D → M D) (d e : D) : bin2 f [d, e] w = f d e w := rfl
theorem mod_int {i j : Int} (h : j ≠ 0) : modD (.int i) (.int j) w = .ok (.int (i.fmod j)) w := by unfold modD; simp only [if_w, if_pos h]; rfl
/-- i is of less than k bits -/
def Sz (k : Nat) (i : Int) : Prop := i.natAbs < 2 ^ k
theorem Sz.log {k : Nat} {i : Int} (h : Sz k i) : i.natAbs.log2 ≤ k := by
  unfold Sz at h
  by_cases e : i.natAbs = 0
  · rw [e]; exact Nat.zero_le k
  · exact Nat.le_of_lt ((Nat.log2_lt e).mpr h)
theorem Sz.mono {k l : Nat} {i : Int} (h : Sz k i) (hl : k ≤ l) : Sz l i := Nat.lt_of_lt_of_le h (Nat.pow_le_pow_right (by decide) hl)
theorem Sz.mul {k l : Nat} {i j : Int} (h : Sz k i) (g : Sz l j) : Sz (k + l) (i * j) := by
  unfold Sz at *
  rw [Int.natAbs_mul, Nat.pow_add]
  exact Nat.mul_lt_mul'' h g
theorem Sz.add {k : Nat} {i j : Int} (h : Sz k i) (g : Sz k j) : Sz (k + 1) (i + j) := by
  unfold Sz at *
  have := Int.natAbs_add_le i j
  rw [Nat.pow_succ]; omega
theorem Sz.neg {k : Nat} {i : Int} (h : Sz k i) : Sz k (-i) := by unfold Sz at *; rwa [Int.natAbs_neg]
theorem Sz.sub {k : Nat} {i j : Int} (h : Sz k i) (g : Sz k j) : Sz (k + 1) (i - j) := by rw [Int.sub_eq_add_neg]; exact h.add g.neg
theorem mul_int {k l : Nat} {i j : Int} (h : Sz k i) (g : Sz l j) (hk : k + l < 1000000 := by decide) : mulD (.int i) (.int j) w = .ok (.int (i * j)) w := by
  have := h.log
  have := g.log
  unfold mulD; simp only [if_w]; rw [if_pos (by omega)]; rfl
theorem fdiv_int {k : Nat} {i j : Int} (h0 : j ≠ 0) (h : Sz k j) (hk : k < 9000 := by decide) : fdivD (.int i) (.int j) w = .ok (.int (i.fdiv j)) w := by
  have := h.log
  unfold fdivD; simp only [if_w]; rw [if_pos ⟨h0, by omega⟩]; rfl
theorem pow_int {i j : Int} (h0 : 0 ≤ j ∧ j ≤ 1000000 ∧ i.natAbs < 2 ^ 64) : powD (.int i) (.int j) w = .ok (.int (i ^ j.toNat)) w := by unfold powD; simp only [if_w, if_pos h0]; rfl
theorem eq_w {a b : D} (h : D.flat 60 a = true ∧ D.flat 60 b = true) : eqD a b w = .ok (.bl (D.eqv a b)) w := by unfold eqD; simp only [if_w, if_pos h]; rfl
theorem ne_w {a b : D} (h : D.flat 60 a = true ∧ D.flat 60 b = true) : neD a b w = .ok (.bl (!D.eqv a b)) w := by unfold neD; simp only [if_w, if_pos h]; rfl
theorem eq_int (i j : Int) : eqD (.int i) (.int j) w = .ok (.bl (i == j)) w := by rw [eq_w ⟨rfl, rfl⟩]; rfl
theorem ne_int (i j : Int) : neD (.int i) (.int j) w = .ok (.bl (!(i == j))) w := by rw [ne_w ⟨rfl, rfl⟩]; rfl
theorem eq_pair (a b c d : Int) : eqD (.tup [.int a, .int b]) (.tup [.int c, .int d]) w = .ok (.bl (a == c && b == d)) w := by rw [eq_w ⟨rfl, rfl⟩]; simp only [D.eqv, D.eqvL, Bool.and_true]
theorem ne_pair (a b c d : Int) : neD (.tup [.int a, .int b]) (.tup [.int c, .int d]) w = .ok (.bl (!(a == c && b == d))) w := by rw [ne_w ⟨rfl, rfl⟩]; simp only [D.eqv, D.eqvL, Bool.and_true]
def itK (o : Option D) (w : Wd) : R D := match o with
  | some d => .ok d w
  | none => .bad
theorem ix_lst (xs : List D) (i : Int) : ixD (.lst xs) (.int i) w = itK (itemAt xs i) w := by unfold ixD ixL itK; simp only; cases itemAt xs i <;> rfl
theorem ix_frz (xs : List D) (i : Int) : ixD (.frz xs) (.int i) w = itK (itemAt xs i) w := by unfold ixD ixL itK; simp only; cases itemAt xs i <;> rfl
theorem ix_tup (xs : List D) (i : Int) : ixD (.tup xs) (.int i) w = itK (itemAt xs i) w := by unfold ixD ixL itK; simp only; cases itemAt xs i <;> rfl
theorem ix_hand (xs : List D) (i : Int) : ixD .hand (.int i) (some xs) = itK (itemAt xs i) (some xs) := by unfold ixD ixL itK; simp only; cases itemAt xs i <;> rfl
theorem itK_v (d : D) : itK (some d) w = .ok d w := rfl
theorem item0 (x : D) (xs : List D) : itemAt (x :: xs) 0 = some x := by
  unfold itemAt ixP
  rw [if_pos ⟨by decide, by simp only [List.length_cons]; omega⟩]; rfl
theorem item1 (x y : D) (xs : List D) : itemAt (x :: y :: xs) 1 = some y := by
  unfold itemAt ixP
  rw [if_pos ⟨by decide, by simp only [List.length_cons]; omega⟩]; rfl
theorem item2 (x y z : D) (xs : List D) : itemAt (x :: y :: z :: xs) 2 = some z := by
  unfold itemAt ixP
  rw [if_pos ⟨by decide, by simp only [List.length_cons]; omega⟩]; rfl
theorem item3 (x y z u : D) (xs : List D) : itemAt (x :: y :: z :: u :: xs) 3 = some u := by
  unfold itemAt ixP
  rw [if_pos ⟨by decide, by simp only [List.length_cons]; omega⟩]; rfl
theorem item_nat {xs : List D} {i : Int} {d : D} (h0 : 0 ≤ i) (e : xs[i.toNat]? = some d) : itemAt xs i = some d := by
  have hl : i.toNat < xs.length := (List.getElem?_eq_some_iff.mp e).1
  unfold itemAt ixP
  rw [if_pos ⟨h0, by omega⟩]; exact e
theorem isi_w {ts : List Ty} {d : D} {n : String} (h : d.tyNm = some n) (ht : ts.all Ty.ok = true) : isiB ts d w = .ok (.bl (ts.any fun t => isT t d)) w := by
  unfold isiB
  rw [h]
  simp only [if_pos ht]
  rfl
theorem isi_int_i (i : Int) : isiB [.int] (.int i) w = .ok (.bl true) w := by rw [isi_w (n := "int") rfl rfl]; rfl
theorem isi_int_b (i : Bool) : isiB [.int] (.bl i) w = .ok (.bl true) w := by rw [isi_w (n := "bool") rfl rfl]; rfl
theorem isi_int_n  : isiB [.int] .non w = .ok (.bl false) w := by rw [isi_w (n := "NoneType") rfl rfl]; rfl
theorem isi_int_s (i : Str) : isiB [.int] (.str i) w = .ok (.bl false) w := by rw [isi_w (n := "str") rfl rfl]; rfl
theorem isi_int_t (i : List D) : isiB [.int] (.tup i) w = .ok (.bl false) w := by rw [isi_w (n := "tuple") rfl rfl]; rfl
theorem isi_int_l (i : List D) : isiB [.int] (.lst i) w = .ok (.bl false) w := by rw [isi_w (n := "list") rfl rfl]; rfl
theorem isi_int_f (i : List D) : isiB [.int] (.frz i) w = .ok (.bl false) w := by rw [isi_w (n := "list") rfl rfl]; rfl
theorem isi_int_h  : isiB [.int] .hand w = .ok (.bl false) w := by rw [isi_w (n := "list") rfl rfl]; rfl
theorem isi_bool_i (i : Int) : isiB [.bool] (.int i) w = .ok (.bl false) w := by rw [isi_w (n := "int") rfl rfl]; rfl
theorem isi_bool_b (i : Bool) : isiB [.bool] (.bl i) w = .ok (.bl true) w := by rw [isi_w (n := "bool") rfl rfl]; rfl
theorem isi_bool_n  : isiB [.bool] .non w = .ok (.bl false) w := by rw [isi_w (n := "NoneType") rfl rfl]; rfl
theorem isi_bool_s (i : Str) : isiB [.bool] (.str i) w = .ok (.bl false) w := by rw [isi_w (n := "str") rfl rfl]; rfl
theorem isi_bool_t (i : List D) : isiB [.bool] (.tup i) w = .ok (.bl false) w := by rw [isi_w (n := "tuple") rfl rfl]; rfl
theorem isi_bool_l (i : List D) : isiB [.bool] (.lst i) w = .ok (.bl false) w := by rw [isi_w (n := "list") rfl rfl]; rfl
theorem isi_bool_f (i : List D) : isiB [.bool] (.frz i) w = .ok (.bl false) w := by rw [isi_w (n := "list") rfl rfl]; rfl
theorem isi_bool_h  : isiB [.bool] .hand w = .ok (.bl false) w := by rw [isi_w (n := "list") rfl rfl]; rfl
theorem isi_str_i (i : Int) : isiB [.str] (.int i) w = .ok (.bl false) w := by rw [isi_w (n := "int") rfl rfl]; rfl
theorem isi_str_b (i : Bool) : isiB [.str] (.bl i) w = .ok (.bl false) w := by rw [isi_w (n := "bool") rfl rfl]; rfl
theorem isi_str_n  : isiB [.str] .non w = .ok (.bl false) w := by rw [isi_w (n := "NoneType") rfl rfl]; rfl
theorem isi_str_s (i : Str) : isiB [.str] (.str i) w = .ok (.bl true) w := by rw [isi_w (n := "str") rfl rfl]; rfl
theorem isi_str_t (i : List D) : isiB [.str] (.tup i) w = .ok (.bl false) w := by rw [isi_w (n := "tuple") rfl rfl]; rfl
theorem isi_str_l (i : List D) : isiB [.str] (.lst i) w = .ok (.bl false) w := by rw [isi_w (n := "list") rfl rfl]; rfl
theorem isi_str_f (i : List D) : isiB [.str] (.frz i) w = .ok (.bl false) w := by rw [isi_w (n := "list") rfl rfl]; rfl
theorem isi_str_h  : isiB [.str] .hand w = .ok (.bl false) w := by rw [isi_w (n := "list") rfl rfl]; rfl
theorem isi_tuple_i (i : Int) : isiB [.tuple] (.int i) w = .ok (.bl false) w := by rw [isi_w (n := "int") rfl rfl]; rfl
theorem isi_tuple_b (i : Bool) : isiB [.tuple] (.bl i) w = .ok (.bl false) w := by rw [isi_w (n := "bool") rfl rfl]; rfl
theorem isi_tuple_n  : isiB [.tuple] .non w = .ok (.bl false) w := by rw [isi_w (n := "NoneType") rfl rfl]; rfl
theorem isi_tuple_s (i : Str) : isiB [.tuple] (.str i) w = .ok (.bl false) w := by rw [isi_w (n := "str") rfl rfl]; rfl
theorem isi_tuple_t (i : List D) : isiB [.tuple] (.tup i) w = .ok (.bl true) w := by rw [isi_w (n := "tuple") rfl rfl]; rfl
theorem isi_tuple_l (i : List D) : isiB [.tuple] (.lst i) w = .ok (.bl false) w := by rw [isi_w (n := "list") rfl rfl]; rfl
theorem isi_tuple_f (i : List D) : isiB [.tuple] (.frz i) w = .ok (.bl false) w := by rw [isi_w (n := "list") rfl rfl]; rfl
theorem isi_tuple_h  : isiB [.tuple] .hand w = .ok (.bl false) w := by rw [isi_w (n := "list") rfl rfl]; rfl
theorem isi_list_i (i : Int) : isiB [.list] (.int i) w = .ok (.bl false) w := by rw [isi_w (n := "int") rfl rfl]; rfl
theorem isi_list_b (i : Bool) : isiB [.list] (.bl i) w = .ok (.bl false) w := by rw [isi_w (n := "bool") rfl rfl]; rfl
theorem isi_list_n  : isiB [.list] .non w = .ok (.bl false) w := by rw [isi_w (n := "NoneType") rfl rfl]; rfl
theorem isi_list_s (i : Str) : isiB [.list] (.str i) w = .ok (.bl false) w := by rw [isi_w (n := "str") rfl rfl]; rfl
theorem isi_list_t (i : List D) : isiB [.list] (.tup i) w = .ok (.bl false) w := by rw [isi_w (n := "tuple") rfl rfl]; rfl
theorem isi_list_l (i : List D) : isiB [.list] (.lst i) w = .ok (.bl true) w := by rw [isi_w (n := "list") rfl rfl]; rfl
theorem isi_list_f (i : List D) : isiB [.list] (.frz i) w = .ok (.bl true) w := by rw [isi_w (n := "list") rfl rfl]; rfl
theorem isi_list_h  : isiB [.list] .hand w = .ok (.bl true) w := by rw [isi_w (n := "list") rfl rfl]; rfl
theorem isi_dict_i (i : Int) : isiB [.dict] (.int i) w = .ok (.bl false) w := by rw [isi_w (n := "int") rfl rfl]; rfl
theorem isi_dict_b (i : Bool) : isiB [.dict] (.bl i) w = .ok (.bl false) w := by rw [isi_w (n := "bool") rfl rfl]; rfl
theorem isi_dict_n  : isiB [.dict] .non w = .ok (.bl false) w := by rw [isi_w (n := "NoneType") rfl rfl]; rfl
theorem isi_dict_s (i : Str) : isiB [.dict] (.str i) w = .ok (.bl false) w := by rw [isi_w (n := "str") rfl rfl]; rfl
theorem isi_dict_t (i : List D) : isiB [.dict] (.tup i) w = .ok (.bl false) w := by rw [isi_w (n := "tuple") rfl rfl]; rfl
theorem isi_dict_l (i : List D) : isiB [.dict] (.lst i) w = .ok (.bl false) w := by rw [isi_w (n := "list") rfl rfl]; rfl
theorem isi_dict_f (i : List D) : isiB [.dict] (.frz i) w = .ok (.bl false) w := by rw [isi_w (n := "list") rfl rfl]; rfl
theorem isi_dict_h  : isiB [.dict] .hand w = .ok (.bl false) w := by rw [isi_w (n := "list") rfl rfl]; rfl
/-! comprehensions -/
def lcM (xs : List D) (g : GF) (t : TF) (e : EF) (ρ : Env) (is : List Nat) (w : Wd) : R (List D) := if xs.length ≤ line then lcL g t e (wipeE ρ is) xs w else .bad
def lcB (r : R (List D)) (g : GF) (t : TF) (e : EF) (ρ : Env) (is : List Nat) : R (List D) := match r with
  | .ok xs w => lcM xs g t e ρ is w
  | .ex c ns xs w => .ex c ns xs w
  | .bad => .bad
theorem nLc_w (src : IF) (is : List Nat) (g : GF) (t : TF) (e : EF) : nLc src is g t e ρ w = lcB (src ρ w) g t e ρ is := by
  show M.bind (src ρ) _ w = _
  rw [bind_w]
  unfold lcB
  cases src ρ w with
  | ok xs w' => simp only [bindK_ok, lcM, if_w, fail_w]
  | ex => rfl
  | bad => rfl
theorem lcB_ok (xs : List D) (g : GF) (t : TF) (e : EF) (is : List Nat) : lcB (.ok xs w) g t e ρ is = lcM xs g t e ρ is w := rfl
theorem lcM_v {xs : List D} (g : GF) (t : TF) (e : EF) (is : List Nat) (h : xs.length ≤ line) : lcM xs g t e ρ is w = lcL g t e (wipeE ρ is) xs w := if_pos h
def lcE (r : R D) (g : GF) (t : TF) (e : EF) (ρ : Env) (xs : List D) : R (List D) := match r with
  | .ok y w => bindK (lcL g t e ρ xs w) fun ys => M.ret (y :: ys)
  | _ => .bad
def lcT (r : R Bool) (ρ1 : Env) (g : GF) (t : TF) (e : EF) (ρ : Env) (xs : List D) : R (List D) := match r with
  | .ok true w => lcE (e ρ1 w) g t e ρ xs
  | .ok false w => lcL g t e ρ xs w
  | _ => .bad
theorem lc0 (g : GF) (t : TF) (e : EF) : lcL g t e ρ [] w = .ok [] w := rfl
theorem lcG {g : GF} (t : TF) (e : EF) {x : D} (xs : List D) {ρ1 : Env} (h : g x ρ = some ρ1) : lcL g t e ρ (x :: xs) w = lcT (t ρ1 w) ρ1 g t e ρ xs := by
  rw [lcL_cons h, bind_w]
  unfold lcT
  cases et : t ρ1 w with
  | ok c w' =>
    rw [noEx_ap et, bindK_ok]
    cases c with
    | true =>
      simp only [if_true]
      rw [bind_w]
      unfold lcE
      cases ee : e ρ1 w' with
      | ok y w2 => rw [noEx_ap ee, bindK_ok, bind_w]
      | ex => rw [noEx_bad (by rw [ee]; intro _ _ z; cases z)]; rfl
      | bad => rw [noEx_bad (by rw [ee]; intro _ _ z; cases z)]; rfl
    | false => simp only [Bool.false_eq_true, if_false]
  | ex => rw [noEx_bad (by rw [et]; intro _ _ z; cases z)]; rfl
  | bad => rw [noEx_bad (by rw [et]; intro _ _ z; cases z)]; rfl
theorem lcN (i : Nat) (t : TF) (e : EF) (x : D) (xs : List D) : lcL (gN i) t e ρ (x :: xs) w = lcT (t (ρ.set i (.val x)) w) (ρ.set i (.val x)) (gN i) t e ρ xs := lcG t e xs rfl
theorem lcT_t (ρ1 : Env) (g : GF) (t : TF) (e : EF) (xs : List D) : lcT (.ok true w) ρ1 g t e ρ xs = lcE (e ρ1 w) g t e ρ xs := rfl
theorem lcT_f (ρ1 : Env) (g : GF) (t : TF) (e : EF) (xs : List D) : lcT (.ok false w) ρ1 g t e ρ xs = lcL g t e ρ xs w := rfl
theorem lcE_v (y : D) (g : GF) (t : TF) (e : EF) (xs : List D) : lcE (.ok y w) g t e ρ xs = bindK (lcL g t e ρ xs w) fun ys => M.ret (y :: ys) := rfl
theorem wipeE0 : wipeE ρ [] = ρ := rfl
theorem wipeE1 (i : Nat) (is : List Nat) : wipeE ρ (i :: is) = (wipeE ρ is).set i .none := rfl
theorem add_lst {a b : List D} (h : a.length + b.length ≤ line) : addD (.lst a) (.lst b) w = .ok (.lst (a ++ b)) w := by unfold addD; simp only [if_w, if_pos h]; rfl
theorem in_lst {x : D} {xs : List D} (h : D.flat 60 x = true) (g : D.flatL 60 xs = true) : inD x (.lst xs) w = .ok (.bl (xs.any fun y => D.eqv y x)) w := by unfold inD; simp only [if_w, if_pos (And.intro h g)]; rfl
theorem notIn_lst {x : D} {xs : List D} (h : D.flat 60 x = true) (g : D.flatL 60 xs = true) : notInD x (.lst xs) w = .ok (.bl (!xs.any fun y => D.eqv y x)) w := by
  show M.bind (inD x (.lst xs)) _ w = _
  rw [bind_w, in_lst h g, bindK_ok]; rfl
/-! texts -/
def okS (x : Str) : Prop := x.cps.all (· < 0x110000) = true
theorem add_str {a b : Str} (h : a.length + b.length ≤ line) : addD (.str a) (.str b) w = .ok (.str (a ++ b)) w := by unfold addD; simp only [if_w, if_pos h]; rfl
theorem eq_str {a b : Str} (h : okS a) (g : okS b) : eqD (.str a) (.str b) w = .ok (.bl (a == b)) w := by rw [eq_w ⟨by unfold D.flat; exact h, by unfold D.flat; exact g⟩]; simp only [D.eqv]
theorem ne_str {a b : Str} (h : okS a) (g : okS b) : neD (.str a) (.str b) w = .ok (.bl (!(a == b))) w := by rw [ne_w ⟨by unfold D.flat; exact h, by unfold D.flat; exact g⟩]; simp only [D.eqv]
theorem okS_app {a b : Str} (h : okS a) (g : okS b) : okS (a ++ b) := by
  unfold okS at *
  show (a.cps ++ b.cps).all _ = true
  rw [Array.all_append, h, g]; rfl
theorem okS_of (s : String) : okS (Str.ofString s) := by
  unfold okS
  rw [Str.ofString_eq_toList]
  simp only [List.all_toArray, List.all_map, List.all_eq_true, Function.comp, decide_eq_true_eq]
  intro c _
  have := c.valid
  unfold UInt32.isValidChar Nat.isValidChar at this
  show c.val.toNat < 0x110000
  omega
theorem len_app (a b : Str) : (a ++ b).length = a.length + b.length := by
  show (a.cps ++ b.cps).size = _
  rw [Array.size_append]; rfl
theorem empty_app (a : Str) : Str.empty ++ a = a := by
  show Str.append Str.empty a = a
  unfold Str.append Str.empty
  simp
theorem len_of (s : String) : (Str.ofString s).length = s.toList.length := by
  rw [Str.ofString_eq_toList]
  simp [Str.length]
theorem toStr_len {k n : Nat} {i : Int} (h : Sz k i) (hk : 2 ^ k ≤ 10 ^ n) (hn : 0 < n) : (Str.ofString (toString i)).length ≤ n + 1 := by
  unfold Sz at h
  have nat : ∀ m : Nat, m < 10 ^ n → (Str.ofString (toString (m : Int))).length ≤ n := fun m hm => PyProof.Rows.toString_length_le (by omega) hn (by exact_mod_cast hm)
  match i, h with
  | .ofNat m, h => exact Nat.le_succ_of_le (nat m (Nat.lt_of_lt_of_le h hk))
  | .negSucc m, h =>
    have e : toString (Int.negSucc m) = "-" ++ toString (m + 1 : Nat) := rfl
    have e2 : toString ((m + 1 : Nat) : Int) = toString (m + 1 : Nat) := rfl
    have := nat (m + 1) (Nat.lt_of_lt_of_le h hk)
    rw [e2] at this
    rw [e, len_of, String.toList_append, List.length_append]
    rw [len_of] at this
    have : ("-" : String).toList.length = 1 := rfl
    omega
theorem str_int {k : Nat} {i : Int} (h : Sz k i) (hk : k < 1920) : strD (.int i) w = .ok (.str (Str.ofString (toString i))) w := by
  have := h.log
  unfold strD; simp only [if_w]; rw [if_pos (by omega)]; rfl
theorem fmt_int {k : Nat} {i : Int} (h : Sz k i) (hk : k < 1920) : fmtD (.int i) w = .ok (.str (Str.ofString (toString i))) w := by
  have := h.log
  unfold fmtD; simp only [if_w]; rw [if_pos (by omega)]; rfl
theorem fmt_str {x : Str} (h : x.length ≤ line) : fmtD (.str x) w = .ok (.str x) w := by unfold fmtD; simp only [if_w, if_pos h]; rfl
def jsK (es : List EF) (acc : Str) (ρ : Env) : D → M Str := fun x => match x with
  | .str y => if (acc ++ y).length ≤ line then jsM es (acc ++ y) ρ else M.fail
  | _ => M.fail
theorem eJs_w (es : List EF) : eJs es ρ w = bindK (jsM es Str.empty ρ w) fun s => M.ret (.str s) := rfl
theorem js0 (acc : Str) : jsM [] acc ρ w = .ok acc w := rfl
theorem js1 (e : EF) (es : List EF) (acc : Str) : jsM (e :: es) acc ρ w = bindK (e ρ w) (jsK es acc ρ) := rfl
theorem jsK_v (es : List EF) {acc y : Str} (h : (acc ++ y).length ≤ line) : jsK es acc ρ (.str y) w = jsM es (acc ++ y) ρ w := by unfold jsK; simp only [if_w, if_pos h]
/-! statements -/
def seqK (r : SR) (t : SF) : SR := match r with
  | .nx ρ w => t ρ w
  | r => r
theorem sSeq_w (s t : SF) : sSeq s t ρ w = seqK (s ρ w) t := by unfold sSeq seqK; cases s ρ w <;> rfl
theorem seqK_nx (t : SF) : seqK (.nx ρ w) t = t ρ w := rfl
theorem seqK_rt (d : D) (t : SF) : seqK (.rt d w) t = .rt d w := rfl
theorem seqK_bk (t : SF) : seqK (.bk ρ w) t = .bk ρ w := rfl
theorem seqK_ct (t : SF) : seqK (.ct ρ w) t = .ct ρ w := rfl
theorem seqK_ex (c : Nat) (ns : List Str) (xs : List D) (t : SF) : seqK (.ex c ns xs ρ w) t = .ex c ns xs ρ w := rfl
def onK {α : Type} (r : R α) (ρ : Env) (k : α → Wd → SR) : SR := match r with
  | .ok a w' => k a w'
  | .ex c ns xs w' => .ex c ns xs ρ w'
  | .bad => .bad
theorem onK_ok {α : Type} (a : α) (k : α → Wd → SR) : onK (.ok a w) ρ k = k a w := rfl
theorem onK_ex {α : Type} (c : Nat) (ns : List Str) (xs : List D) (k : α → Wd → SR) : onK (.ex c ns xs w) ρ k = .ex c ns xs ρ w := rfl
theorem sNext_w : sNext ρ w = .nx ρ w := rfl
theorem sSet_w (i : Nat) (e : EF) : sSet i e ρ w = onK (e ρ w) ρ fun d w' => .nx (ρ.set i (.val d)) w' := rfl
theorem sOwn_w (i : Nat) (f : Env → M (List D)) : sOwn i f ρ w = onK (f ρ w) ρ fun d w' => .nx (ρ.set i (.own d)) w' := rfl
def frzK (i : Nat) (s : Option Slot) (ρ : Env) (w : Wd) : SR := match s with
  | some (.own xs) => .nx (ρ.set i (.val (.lst xs))) w
  | _ => .bad
theorem sFrz_w (i : Nat) : sFrz i ρ w = frzK i ρ[i]? ρ w := by unfold sFrz frzK; cases ρ[i]? with
  | none => rfl
  | some s => cases s <;> rfl
theorem frzK_v (i : Nat) (xs : List D) : frzK i (some (.own xs)) ρ w = .nx (ρ.set i (.val (.lst xs))) w := rfl
def appK (i : Nat) (s : Option Slot) (r : R D) (ρ : Env) : SR := match s with
  | some (.own xs) => onK r ρ fun d w' => if xs.length < line then .nx (ρ.set i (.own (xs ++ [d]))) w' else .bad
  | _ => .bad
theorem sApp_w (i : Nat) (e : EF) : sApp i e ρ w = appK i ρ[i]? (e ρ w) ρ := by unfold sApp appK; cases ρ[i]? with
  | none => rfl
  | some s => cases s <;> rfl
theorem appK_v (i : Nat) {xs : List D} (d : D) (h : xs.length < line) : appK i (some (.own xs)) (.ok d w) ρ = .nx (ρ.set i (.own (xs ++ [d]))) w := by unfold appK; simp only [onK_ok, if_pos h]
theorem sExpr_w (e : EF) : sExpr e ρ w = onK (e ρ w) ρ fun _ w' => .nx ρ w' := rfl
theorem sRet_w (e : EF) : sRet e ρ w = onK (e ρ w) ρ fun d w' => .rt d w' := rfl
theorem sRetN_w : sRetN ρ w = .rt .non w := rfl
def ifK (r : R Bool) (a b : SF) (ρ : Env) : SR := match r with
  | .ok true w => a ρ w
  | .ok false w => b ρ w
  | .ex c ns xs w => .ex c ns xs ρ w
  | .bad => .bad
theorem sIf_w (t : TF) (a b : SF) : sIf t a b ρ w = ifK (t ρ w) a b ρ := by
  unfold sIf onE ifK
  cases t ρ w with
  | ok c w' => cases c <;> rfl
  | ex => rfl
  | bad => rfl
theorem ifK_t (a b : SF) : ifK (.ok true w) a b ρ = a ρ w := rfl
theorem ifK_f (a b : SF) : ifK (.ok false w) a b ρ = b ρ w := rfl
theorem sBrk_w : sBrk ρ w = .bk ρ w := rfl
theorem sCnt_w : sCnt ρ w = .ct ρ w := rfl
def parK (i j : Nat) (ρ : Env) (xs : List D) (w : Wd) : SR := match xs with
  | [x, y] => .nx ((ρ.set i (.val x)).set j (.val y)) w
  | _ => .bad
theorem sPar_w (i j : Nat) (a b : EF) : sPar i j a b ρ w = onK (evs [a, b] ρ w) ρ (parK i j ρ) := rfl
theorem parK_v (i j : Nat) (x y : D) : parK i j ρ [x, y] w = .nx ((ρ.set i (.val x)).set j (.val y)) w := rfl
def unpK (is : List Nat) (ρ : Env) (d : D) (w : Wd) : SR := match gT is d ρ with
  | some ρ' => .nx ρ' w
  | none => .bad
theorem sUnp_w (is : List Nat) (e : EF) : sUnp is e ρ w = onK (e ρ w) ρ (unpK is ρ) := rfl
theorem unpK_2 (i j : Nat) (x y : D) : unpK [i, j] ρ (.tup [x, y]) w = .nx ((ρ.set i (.val x)).set j (.val y)) w := rfl
theorem unpK_3 (i j k : Nat) (x y z : D) : unpK [i, j, k] ρ (.tup [x, y, z]) w = .nx (((ρ.set i (.val x)).set j (.val y)).set k (.val z)) w := rfl
theorem unpK_4 (i j k l : Nat) (x y z u : D) : unpK [i, j, k, l] ρ (.tup [x, y, z, u]) w = .nx ((((ρ.set i (.val x)).set j (.val y)).set k (.val z)).set l (.val u)) w := rfl
theorem sHSet_w (h k e : EF) : sHSet h k e ρ w = onK (bindK (e ρ w) fun d => M.bind (h ρ) fun o => M.bind (k ρ) fun j => M.ret [d, o, j]) ρ (hsK ρ) := rfl
theorem hsK_v (d : D) {i : Int} {hs : List D} {j : Nat} (e : ixP hs.length i = some j) : hsK ρ [d, .hand, .int i] (some hs) = .nx ρ (some (hs.set j d)) := by unfold hsK; simp only [e]
theorem hsK_0 (d x : D) (hs : List D) : hsK ρ [d, .hand, .int 0] (some (x :: hs)) = .nx ρ (some (d :: hs)) := by
  rw [hsK_v (j := 0)]; rfl
  unfold ixP; rw [if_pos ⟨by decide, by simp only [List.length_cons]; omega⟩]; rfl
theorem hsK_1 (d x y : D) (hs : List D) : hsK ρ [d, .hand, .int 1] (some (x :: y :: hs)) = .nx ρ (some (x :: d :: hs)) := by
  rw [hsK_v (j := 1)]; rfl
  unfold ixP; rw [if_pos ⟨by decide, by simp only [List.length_cons]; omega⟩]; rfl
theorem hsK_2 (d x y z : D) (hs : List D) : hsK ρ [d, .hand, .int 2] (some (x :: y :: z :: hs)) = .nx ρ (some (x :: y :: d :: hs)) := by
  rw [hsK_v (j := 2)]; rfl
  unfold ixP; rw [if_pos ⟨by decide, by simp only [List.length_cons]; omega⟩]; rfl
theorem hsK_3 (d x y z u : D) (hs : List D) : hsK ρ [d, .hand, .int 3] (some (x :: y :: z :: u :: hs)) = .nx ρ (some (x :: y :: z :: d :: hs)) := by
  rw [hsK_v (j := 3)]; rfl
  unfold ixP; rw [if_pos ⟨by decide, by simp only [List.length_cons]; omega⟩]; rfl
theorem sRaise_w (c : Nat) (ns : List Str) (es : List EF) : sRaise c ns es ρ w = onK (evs es ρ w) ρ fun xs w' => .ex c ns xs ρ w' := rfl
theorem sFor_w (src : IF) (g : GF) (b : SF) : sFor src g b ρ w = onK (src ρ w) ρ fun xs w' => forL g b xs ρ w' := rfl
theorem iSeq_w (e : EF) : iSeq e ρ w = bindK (e ρ w) seqOf := rfl
theorem seqOf_lst (xs : List D) : seqOf (.lst xs) w = .ok xs w := rfl
theorem seqOf_tup (xs : List D) : seqOf (.tup xs) w = .ok xs w := rfl
theorem seqOf_frz (xs : List D) : seqOf (.frz xs) w = .ok xs w := rfl
theorem iRng_w (lo hi : EF) : iRng lo hi ρ w = bindK (lo ρ w) fun x => M.bind (hi ρ) fun y => rangeM x y := rfl
theorem range_w {i j : Int} (h : -(2 ^ 61) ≤ i ∧ i < 2 ^ 61 ∧ -(2 ^ 61) ≤ j ∧ j < 2 ^ 61) : rangeM (.int i) (.int j) w = .ok (rangeL i j) w := by
  have hb : (near i && near j) = true := by rw [of_near ⟨h.1, h.2.1⟩, of_near ⟨h.2.2.1, h.2.2.2⟩]; rfl
  unfold rangeM
  simp only [if_pos hb]
  rfl
theorem loopK_nx (k : Env → Wd → SR) : loopK (.nx ρ w) k = k ρ w := rfl
theorem loopK_ct (k : Env → Wd → SR) : loopK (.ct ρ w) k = k ρ w := rfl
theorem loopK_bk (k : Env → Wd → SR) : loopK (.bk ρ w) k = .nx ρ w := rfl
theorem loopK_rt (d : D) (k : Env → Wd → SR) : loopK (.rt d w) k = .rt d w := rfl
theorem for0 (g : GF) (b : SF) : forL g b [] ρ w = .nx ρ w := rfl
def loopF (r : SR) (g : GF) (b : SF) (xs : List D) : SR := loopK r fun ρ' w' => forL g b xs ρ' w'
theorem forN (i : Nat) (b : SF) (x : D) (xs : List D) : forL (gN i) b (x :: xs) ρ w = loopF (b (ρ.set i (.val x)) w) (gN i) b xs := rfl
theorem forT (is : List Nat) (b : SF) {x : D} (xs : List D) {ρ1 : Env} (h : gT is x ρ = some ρ1) : forL (gT is) b (x :: xs) ρ w = loopF (b ρ1 w) (gT is) b xs := forL_cons h
theorem loopF_nx (g : GF) (b : SF) (xs : List D) : loopF (.nx ρ w) g b xs = forL g b xs ρ w := rfl
theorem loopF_ct (g : GF) (b : SF) (xs : List D) : loopF (.ct ρ w) g b xs = forL g b xs ρ w := rfl
theorem loopF_bk (g : GF) (b : SF) (xs : List D) : loopF (.bk ρ w) g b xs = .nx ρ w := rfl
theorem loopF_rt (d : D) (g : GF) (b : SF) (xs : List D) : loopF (.rt d w) g b xs = .rt d w := rfl
theorem loopF_ex (c : Nat) (ns : List Str) (ds : List D) (g : GF) (b : SF) (xs : List D) : loopF (.ex c ns ds ρ w) g b xs = .ex c ns ds ρ w := rfl
theorem sWhile_w (fuel : Env → Wd → Nat) (t : TF) (b : SF) : sWhile fuel t b ρ w = whileL t b (fuel ρ w) ρ w := rfl
def whK (r : R Bool) (ρ : Env) (t : TF) (b : SF) (n : Nat) : SR := match r with
  | .ok true w => loopK (b ρ w) fun ρ' w' => whileL t b n ρ' w'
  | .ok false w => .nx ρ w
  | .ex c ns xs w => .ex c ns xs ρ w
  | .bad => .bad
theorem while_w (t : TF) (b : SF) (n : Nat) : whileL t b (n + 1) ρ w = whK (t ρ w) ρ t b n := by
  show onE (t ρ) ρ w _ = _
  unfold onE whK
  cases t ρ w with
  | ok c w' => cases c <;> rfl
  | ex => rfl
  | bad => rfl
theorem whK_t (t : TF) (b : SF) (n : Nat) : whK (.ok true w) ρ t b n = loopK (b ρ w) fun ρ' w' => whileL t b n ρ' w' := rfl
theorem whK_f (t : TF) (b : SF) (n : Nat) : whK (.ok false w) ρ t b n = .nx ρ w := rfl
def tryK (r : SR) (cs ks : List Nat) (i : Nat) (suite : SF) : SR := match r with
  | .ex c ns xs ρ' w' => if c ∈ cs then suiteK i (suite (ρ'.set i (.exc c ns xs)) w') else if c ∈ ks then .ex c ns xs ρ' w' else .bad
  | r => r
theorem sTry_w (body : SF) (cs ks : List Nat) (i : Nat) (suite : SF) : sTry body cs ks i suite ρ w = tryK (body ρ w) cs ks i suite := by unfold sTry tryK; cases body ρ w <;> rfl
theorem tryK_nx (cs ks : List Nat) (i : Nat) (s : SF) : tryK (.nx ρ w) cs ks i s = .nx ρ w := rfl
theorem tryK_rt (d : D) (cs ks : List Nat) (i : Nat) (s : SF) : tryK (.rt d w) cs ks i s = .rt d w := rfl
theorem tryK_ex {c : Nat} (ns : List Str) (xs : List D) {cs : List Nat} (ks : List Nat) (i : Nat) (s : SF) (h : c ∈ cs) : tryK (.ex c ns xs ρ w) cs ks i s = suiteK i (s (ρ.set i (.exc c ns xs)) w) := by unfold tryK; simp only [if_pos h]
theorem suiteK_nx (i : Nat) : suiteK i (.nx ρ w) = .nx (wipeX (ρ.set i .none)) w := rfl
theorem suiteK_rt (i : Nat) (d : D) : suiteK i (.rt d w) = .rt d w := rfl
theorem wipe0 : wipeX [] = [] := rfl
theorem wipe_v (d : D) (ρ : Env) : wipeX (.val d :: ρ) = .val d :: wipeX ρ := rfl
theorem wipe_n (ρ : Env) : wipeX (.none :: ρ) = .none :: wipeX ρ := rfl
theorem wipe_o (xs : List D) (ρ : Env) : wipeX (.own xs :: ρ) = .own xs :: wipeX ρ := rfl
def callK (r : SR) : R D := match r with
  | .nx _ w' => .ok .non w'
  | .rt d w' => .ok d w'
  | .ex c ns xs _ w' => .ex c ns xs w'
  | _ => .bad
theorem call_w (n : Nat) (b : SF) (ds : List D) : callF n b ds w = callK (b (vals ds ++ List.replicate (n - ds.length) .none) w) := by unfold callF callK; cases b (vals ds ++ List.replicate (n - ds.length) .none) w <;> rfl
theorem callK_nx : callK (.nx ρ w) = .ok .non w := rfl
theorem callK_rt (d : D) : callK (.rt d w) = .ok d w := rfl
theorem callK_ex (c : Nat) (ns : List Str) (xs : List D) : callK (.ex c ns xs ρ w) = .ex c ns xs w := rfl
theorem vals0 : vals [] = [] := rfl
theorem vals1 (d : D) (ds : List D) : vals (d :: ds) = .val d :: vals ds := rfl
end
end FL

/-! P2: numbers in lowest terms as Lean's fractions; sizes; equal data. -/
namespace FL
open PySem
/-! ### lowest terms, by Lean's own fractions -/
def lowA (a b : Int) : Int := if b < 0 then (-a).fdiv (Nat.gcd a.natAbs b.natAbs : Nat) else a.fdiv (Nat.gcd a.natAbs b.natAbs : Nat)
def lowB (a b : Int) : Int := if b < 0 then (-b).fdiv (Nat.gcd a.natAbs b.natAbs : Nat) else b.fdiv (Nat.gcd a.natAbs b.natAbs : Nat)
theorem gcd_ne {a b : Int} (h : b ≠ 0) : ((Nat.gcd a.natAbs b.natAbs : Nat) : Int) ≠ 0 := by
  have : Nat.gcd a.natAbs b.natAbs ≠ 0 := fun z => by
    have := (Nat.gcd_eq_zero_iff.mp z).2
    omega
  omega
theorem gcd_sz {k : Nat} {a b : Int} (h : b ≠ 0) (hb : Sz k b) : Sz k (Nat.gcd a.natAbs b.natAbs : Nat) := by
  have := Nat.le_of_dvd (by omega : 0 < b.natAbs) (Nat.gcd_dvd_right a.natAbs b.natAbs)
  unfold Sz at *
  simp only [Int.natAbs_natCast]
  omega
theorem low_q {a b : Int} (h : b ≠ 0) : lowA a b = (Rat.divInt a b).num ∧ lowB a b = ((Rat.divInt a b).den : Int) := by
  have g0 : (0 : Int) ≤ (Nat.gcd a.natAbs b.natAbs : Nat) := by omega
  have ec : b.gcd a = Nat.gcd a.natAbs b.natAbs := by unfold Int.gcd; exact Nat.gcd_comm _ _
  rw [Rat.num_divInt, Rat.den_divInt, if_neg h, ec]
  unfold lowA lowB
  by_cases l : b < 0
  · rw [if_pos l, if_pos l, Int.sign_eq_neg_one_of_neg l, Int.fdiv_eq_ediv_of_nonneg _ g0, Int.fdiv_eq_ediv_of_nonneg _ g0]
    refine ⟨by rw [Int.neg_one_mul], ?_⟩
    rw [Int.natCast_ediv, show ((b.natAbs : Nat) : Int) = -b by omega]
  · rw [if_neg l, if_neg l, Int.sign_eq_one_of_pos (by omega), Int.fdiv_eq_ediv_of_nonneg _ g0, Int.fdiv_eq_ediv_of_nonneg _ g0]
    refine ⟨by rw [Int.one_mul], ?_⟩
    rw [Int.natCast_ediv, show ((b.natAbs : Nat) : Int) = b by omega]
def SzQ (k : Nat) (q : Rat) : Prop := Sz k q.num ∧ Sz k (q.den : Int)
theorem SzQ.mono {k l : Nat} {q : Rat} (h : SzQ k q) (hl : k ≤ l) : SzQ l q := ⟨h.1.mono hl, h.2.mono hl⟩
theorem den0 (q : Rat) : (q.den : Int) ≠ 0 := by have := q.den_nz; omega
theorem denp (q : Rat) : 0 < (q.den : Int) := by have := q.den_nz; omega
theorem szq_div {k : Nat} {a b : Int} (h : b ≠ 0) (ha : Sz k a) (hb : Sz k b) : SzQ k (Rat.divInt a b) := by
  unfold SzQ Sz at *
  rw [Rat.num_divInt, Rat.den_divInt, if_neg h]
  refine ⟨Nat.lt_of_le_of_lt ?_ ha, ?_⟩
  · rw [Int.natAbs_ediv_of_dvd (Int.dvd_trans (Int.gcd_dvd_right ..) (Int.dvd_mul_left ..)), Int.natAbs_mul, Int.natAbs_sign_of_ne_zero h, Nat.one_mul]
    exact Nat.div_le_self _ _
  · rw [Int.natAbs_natCast]
    exact Nat.lt_of_le_of_lt (Nat.div_le_self _ _) hb
theorem add_q (x y : Rat) : Rat.divInt (x.num * y.den + y.num * x.den) (x.den * y.den) = x + y := by
  rw [Rat.add_def', ← Int.natCast_mul, Rat.divInt_ofNat]
theorem mul_q (x y : Rat) : Rat.divInt (x.num * y.num) (x.den * y.den) = x * y := by
  rw [Rat.mul_def', ← Int.natCast_mul, Rat.divInt_ofNat]
theorem neg_q (x : Rat) : (-x).den = x.den := rfl
theorem sub_q (x y : Rat) : Rat.divInt (x.num * y.den - y.num * x.den) (x.den * y.den) = x - y := by
  rw [Rat.sub_eq_add_neg, ← add_q, Rat.neg_num, neg_q, Int.neg_mul, Int.sub_eq_add_neg]
theorem div_q (x y : Rat) : Rat.divInt (x.num * y.den) (x.den * y.num) = x / y := by
  rw [Rat.div_def, Rat.inv_def, ← Rat.divInt_mul_divInt, Rat.num_divInt_den]
theorem den_mul0 (x y : Rat) : (x.den : Int) * y.den ≠ 0 := Int.mul_ne_zero (den0 x) (den0 y)
theorem SzQ.add {k l : Nat} {x y : Rat} (h : SzQ k x) (g : SzQ l y) : SzQ (k + l + 1) (x + y) := by
  rw [← add_q]
  refine szq_div (den_mul0 x y) ?_ ((h.2.mul g.2).mono (by omega))
  have a := h.1.mul g.2
  have b := (g.1.mul h.2).mono (show l + k ≤ k + l by omega)
  exact a.add b
theorem SzQ.mul {k l : Nat} {x y : Rat} (h : SzQ k x) (g : SzQ l y) : SzQ (k + l) (x * y) := by
  rw [← mul_q]
  exact szq_div (den_mul0 x y) (h.1.mul g.1) (h.2.mul g.2)
theorem SzQ.div {k l : Nat} {x y : Rat} (h : SzQ k x) (g : SzQ l y) (n : y ≠ 0) : SzQ (k + l) (x / y) := by
  rw [← div_q]
  exact szq_div (Int.mul_ne_zero (den0 x) fun z => n (Rat.num_eq_zero.mp z)) (h.1.mul g.2) (h.2.mul g.1)
theorem SzQ.neg {k : Nat} {x : Rat} (h : SzQ k x) : SzQ k (-x) := ⟨by rw [Rat.neg_num]; exact h.1.neg, h.2⟩
theorem SzQ.sub {k l : Nat} {x y : Rat} (h : SzQ k x) (g : SzQ l y) : SzQ (k + l + 1) (x - y) := by
  rw [Rat.sub_eq_add_neg]; exact h.add g.neg
theorem q_beq (x y : Rat) : (x.num == y.num && (x.den : Int) == y.den) = decide (x = y) := by
  by_cases h : x = y
  · subst h; simp
  · rw [decide_eq_false h, Bool.eq_false_iff]
    intro z
    simp only [Bool.and_eq_true, beq_iff_eq] at z
    exact h (Rat.ext z.1 (by omega))
/-! ### sums -/
def sumQ : List Rat → Rat
  | [] => 0
  | x :: xs => x + sumQ xs
theorem sumQ_app : ∀ xs ys : List Rat, sumQ (xs ++ ys) = sumQ xs + sumQ ys
  | [], ys => (Rat.zero_add _).symm
  | x :: xs, ys => by
    show x + sumQ (xs ++ ys) = x + sumQ xs + sumQ ys
    rw [sumQ_app xs ys, Rat.add_assoc]
theorem sumQ_rev : ∀ xs : List Rat, sumQ xs.reverse = sumQ xs
  | [] => rfl
  | x :: xs => by
    rw [List.reverse_cons, sumQ_app, sumQ_rev xs]
    show sumQ xs + (x + 0) = x + sumQ xs
    rw [Rat.add_zero, Rat.add_comm]
theorem sumQ_mid (xs ys : List Rat) (x : Rat) : sumQ (xs ++ ys) + x = sumQ (xs ++ x :: ys) := by
  rw [sumQ_app, sumQ_app]
  show _ = sumQ xs + (x + sumQ ys)
  rw [Rat.add_assoc, Rat.add_comm x]
theorem szq_sum {k : Nat} : ∀ xs : List Rat, (∀ x ∈ xs, SzQ k x) → SzQ (1 + xs.length * (k + 1)) (sumQ xs)
  | [], _ => ⟨by rw [List.length_nil, Nat.zero_mul]; unfold Sz; decide, by rw [List.length_nil, Nat.zero_mul]; unfold Sz; decide⟩
  | x :: xs, h => ((h x (List.mem_cons_self ..)).add (szq_sum xs fun y hy => h y (List.mem_cons_of_mem _ hy))).mono (by rw [List.length_cons, Nat.add_mul]; omega)
/-! ### bounds -/
/-- a fraction within 10 ** 12 both ways -/
def Sm (q : Rat) : Prop := -1000000000000 ≤ q.num ∧ q.num ≤ 1000000000000 ∧ (q.den : Int) ≤ 1000000000000
theorem Sm.sz {q : Rat} (h : Sm q) : SzQ 40 q := by
  unfold Sm at h
  unfold SzQ Sz
  have : (2 ^ 40 : Nat) = 1099511627776 := by decide
  omega
theorem sm_div {a b : Int} (h : b ≠ 0) (ha : -1000000000000 ≤ a ∧ a ≤ 1000000000000) (hb : -1000000000000 ≤ b ∧ b ≤ 1000000000000) : Sm (Rat.divInt a b) := by
  have e1 : (Rat.divInt a b).num.natAbs ≤ a.natAbs := by
    rw [Rat.num_divInt, Int.natAbs_ediv_of_dvd (Int.dvd_trans (Int.gcd_dvd_right ..) (Int.dvd_mul_left ..)), Int.natAbs_mul, Int.natAbs_sign_of_ne_zero h, Nat.one_mul]
    exact Nat.div_le_self _ _
  have e2 : (Rat.divInt a b).den ≤ b.natAbs := by
    rw [Rat.den_divInt, if_neg h]
    exact Nat.div_le_self _ _
  unfold Sm
  omega
theorem divInt_nonneg {a b : Int} (ha : 0 ≤ a) (hb : 0 < b) : 0 ≤ (Rat.divInt a b).num := by
  rw [Rat.num_divInt, Int.sign_eq_one_of_pos hb, Int.one_mul]
  exact Int.ediv_nonneg ha (by omega)
theorem divInt_one (a : Int) : (Rat.divInt a 1).num = a ∧ (Rat.divInt a 1).den = 1 := by
  rw [Rat.num_divInt, Rat.den_divInt]
  simp
/-! ### as data -/
abbrev rq (q : Rat) : D := .tup [.int q.num, .int (q.den : Int)]
theorem rq_low {a b : Int} (h : b ≠ 0) : D.tup [.int (lowA a b), .int (lowB a b)] = rq (Rat.divInt a b) := by rw [(low_q h).1, (low_q h).2]
mutual
theorem eqv_refl : ∀ (n : Nat) (d : D), D.flat n d = true → D.eqv d d = true
  | n, .non, _ => by simp [D.eqv]
  | n, .bl b, _ => by simp [D.eqv]
  | n, .int i, _ => by simp [D.eqv]
  | n, .str x, _ => by simp [D.eqv]
  | n + 1, .lst xs, f => by
    simp only [D.flat] at f
    simp only [D.eqv]
    exact eqv_reflL n xs f
  | n + 1, .tup xs, f => by
    simp only [D.flat] at f
    simp only [D.eqv]
    exact eqv_reflL n xs f
  | 0, .tup xs, f => by simp [D.flat] at f
  | 0, .lst xs, f => by simp [D.flat] at f
  | n, .frz xs, f => by simp [D.flat] at f
  | n, .ins _ _ _, f => by simp [D.flat] at f
  | n, .hand, f => by simp [D.flat] at f
theorem eqv_reflL : ∀ (n : Nat) (ds : List D), D.flatL n ds = true → D.eqvL ds ds = true
  | _, [], _ => by simp [D.eqvL]
  | n, d :: ds, f => by
    simp only [D.flatL, Bool.and_eq_true] at f
    simp only [D.eqvL, eqv_refl n d f.1, eqv_reflL n ds f.2, Bool.and_self]
end
theorem flatL_map {α : Type} {f : α → D} {n : Nat} : ∀ xs : List α, (∀ x ∈ xs, D.flat n (f x) = true) → D.flatL n (xs.map f) = true
  | [], _ => by simp [D.flatL]
  | x :: xs, h => by
    rw [List.map_cons]
    simp only [D.flatL, h x (List.mem_cons_self ..), flatL_map xs (fun y hy => h y (List.mem_cons_of_mem _ hy)), Bool.and_self]
section
variable {w : Wd}
theorem eq_same {d : D} (h : D.flat 60 d = true) : eqD d d w = .ok (.bl true) w := by rw [eq_w ⟨h, h⟩, eqv_refl 60 d h]
theorem ne_same {d : D} (h : D.flat 60 d = true) : neD d d w = .ok (.bl false) w := by rw [ne_w ⟨h, h⟩, eqv_refl 60 d h]; rfl
theorem eq_rq (x y : Rat) : eqD (rq x) (rq y) w = .ok (.bl (decide (x = y))) w := by rw [eq_pair, q_beq]
theorem ne_rq (x y : Rat) : neD (rq x) (rq y) w = .ok (.bl (!decide (x = y))) w := by rw [ne_pair, q_beq]
end
end FL

/-! P3: more rows of evaluation: enumerate, range, slices, comprehensions over lists told by a function, own lists. -/
namespace FL
open PySem
section
variable {ρ : Env} {w : Wd}
/-! enumerate -/
def enumAt : Nat → List D → List D
  | _, [] => []
  | n, x :: xs => .tup [.int (n : Int), x] :: enumAt (n + 1) xs
theorem enumL_at (xs : List D) : enumL xs = enumAt 0 xs := by
  have go : ∀ (xs : List D) (n : Nat), (xs.zipIdx n).map (fun p => D.tup [.int (p.2 : Int), p.1]) = enumAt n xs := by
    intro xs
    induction xs with
    | nil => intro n; rfl
    | cons x xs ih => intro n; rw [List.zipIdx_cons, List.map_cons, ih]; rfl
  exact go xs 0
theorem iEnum_w (e : EF) : iEnum e ρ w = bindK (e ρ w) fun x => M.bind (seqOf x) fun xs => M.ret (enumAt 0 xs) := by
  show bindK (e ρ w) _ = _
  simp only [enumL_at]
theorem forT2 (i j : Nat) (b : SF) (x y : D) (xs : List D) : forL (gT [i, j]) b (.tup [x, y] :: xs) ρ w = loopF (b ((ρ.set i (.val x)).set j (.val y)) w) (gT [i, j]) b xs := forL_cons rfl
theorem forT3 (i j k : Nat) (b : SF) (x y z : D) (xs : List D) : forL (gT [i, j, k]) b (.tup [x, y, z] :: xs) ρ w = loopF (b (((ρ.set i (.val x)).set j (.val y)).set k (.val z)) w) (gT [i, j, k]) b xs := forL_cons rfl
/-! range -/
def rng : Nat → Nat → List D
  | _, 0 => []
  | n, m + 1 => .int (n : Int) :: rng (n + 1) m
theorem rangeL_at (n m : Nat) : rangeL (n : Int) ((n : Int) + (m : Int)) = rng n m := by
  unfold rangeL
  rw [show ((n : Int) + (m : Int) - (n : Int)).toNat = m by omega]
  induction m generalizing n with
  | zero => rfl
  | succ m ih =>
    rw [List.range_succ_eq_map, List.map_cons, List.map_map]
    show _ = D.int (n : Int) :: rng (n + 1) m
    rw [← ih (n + 1)]
    refine congr (congrArg _ (by simp)) (List.map_congr_left fun k _ => ?_)
    show D.int _ = D.int _
    congr 1
    show (n : Int) + ((k + 1 : Nat) : Int) = ((n + 1 : Nat) : Int) + (k : Int)
    omega
theorem range0 (m : Nat) (h : m < 1000000) : rangeM (.int 0) (.int (m : Int)) w = .ok (rng 0 m) w := by
  rw [range_w (by omega)]
  rw [← rangeL_at 0 m, show ((0 : Nat) : Int) + (m : Int) = (m : Int) by omega]
  rfl
theorem range0i {i : Int} (h0 : 0 ≤ i) (h : i < 1000000) : rangeM (.int 0) (.int i) w = .ok (rng 0 i.toNat) w := by
  have e : i = ((i.toNat : Nat) : Int) := by omega
  rw [e, range0 _ (by omega), Int.toNat_natCast]
theorem rng_map (m : Nat) : rng 0 m = (List.range m).map fun (k : Nat) => D.int (k : Int) := by
  have := rangeL_at 0 m
  rw [← this]
  unfold rangeL
  rw [show (((0 : Nat) : Int) + (m : Int) - ((0 : Nat) : Int)).toNat = m by omega]
  exact List.map_congr_left fun k _ => by
    show D.int _ = D.int _
    congr 1
    omega
/-! slices -/
def slK (x : D) (lo : Option Int) (y : D) : M D := match y with | .int i => sliceD x lo (some i) | _ => M.fail
def slL (x : D) (y : D) : M D := match y with | .int i => sliceD x (some i) none | _ => M.fail
theorem sl_hi (a e : EF) : eSlice a none (some e) ρ w = bindK (a ρ w) fun x => M.bind (e ρ) fun y => slK x none y := by
  show bindK (a ρ w) _ = _
  congr 1
  funext x w1
  show bindK (bindK ((e ρ) w1) _) _ = bindK ((e ρ) w1) _
  cases (e ρ) w1 with
  | ok y w2 => cases y <;> rfl
  | ex => rfl
  | bad => rfl
theorem sl_lo (a e : EF) : eSlice a (some e) none ρ w = bindK (a ρ w) fun x => M.bind (e ρ) fun y => slL x y := by
  show bindK (a ρ w) _ = _
  congr 1
  funext x w1
  show bindK (bindK ((e ρ) w1) _) _ = bindK ((e ρ) w1) _
  cases (e ρ) w1 with
  | ok y w2 => cases y <;> rfl
  | ex => rfl
  | bad => rfl
theorem slK_v (xs : List D) (k : Nat) : slK (.lst xs) none (.int (k : Int)) w = .ok (.lst (xs.take k)) w := by
  show R.ok (D.lst (cutL xs none (some (k : Int)))) w = _
  unfold cutL cutAt
  simp only [if_pos (Int.natCast_nonneg k), Int.toNat_natCast, List.drop_zero, Nat.sub_zero]
  congr 2
  rw [Nat.min_comm, ← List.take_take]
  exact List.take_of_length_le (by rw [List.length_take]; omega)
theorem slL_v (xs : List D) (k : Nat) : slL (.lst xs) (.int (k : Int)) w = .ok (.lst (xs.drop k)) w := by
  show R.ok (D.lst (cutL xs (some (k : Int)) none)) w = _
  unfold cutL cutAt
  simp only [if_pos (Int.natCast_nonneg k), Int.toNat_natCast]
  congr 2
  by_cases h : k ≤ xs.length
  · rw [Nat.min_eq_left h, List.take_of_length_le (by rw [List.length_drop]; omega)]
  · rw [Nat.min_eq_right (by omega), List.drop_length, List.drop_eq_nil_of_le (by omega)]; simp
/-! comprehensions over lists told by a function -/
theorem lcMap {α : Type} {f g : α → D} (i : Nat) (e : EF) : ∀ xs : List α, (∀ x ∈ xs, e (ρ.set i (.val (f x))) w = .ok (g x) w) → lcL (gN i) tYes e ρ (xs.map f) w = .ok (xs.map g) w
  | [], _ => rfl
  | x :: xs, h => by
    rw [List.map_cons, lcN, tYes_w, lcT_t, h x (List.mem_cons_self ..), lcE_v, lcMap i e xs fun y hy => h y (List.mem_cons_of_mem _ hy), bindK_ok, ret_w, List.map_cons]
theorem lcNone {α : Type} {f : α → D} (i : Nat) (t : TF) (e : EF) : ∀ xs : List α, (∀ x ∈ xs, t (ρ.set i (.val (f x))) w = .ok false w) → lcL (gN i) t e ρ (xs.map f) w = .ok [] w
  | [], _ => rfl
  | x :: xs, h => by
    rw [List.map_cons, lcN, h x (List.mem_cons_self ..), lcT_f, lcNone i t e xs fun y hy => h y (List.mem_cons_of_mem _ hy)]
/-! own lists -/
def sMK (i : Nat) (f : List D → List D → Option (List D)) (s : Option Slot) (r : R (List D)) (ρ : Env) : SR := match s with
  | some (.own xs) => onK r ρ (mutK i f xs ρ)
  | _ => .bad
theorem sMut_w (i : Nat) (f : List D → List D → Option (List D)) (es : List EF) : sMut i f es ρ w = sMK i f ρ[i]? (evs es ρ w) ρ := by
  unfold sMut sMK
  cases ρ[i]? with
  | none => rfl
  | some s => cases s with
    | own xs => show onE _ _ _ _ = _; unfold onE onK; cases evs es ρ w <;> rfl
    | _ => rfl
theorem sMK_v (i : Nat) (f : List D → List D → Option (List D)) (xs ds : List D) : sMK i f (some (.own xs)) (.ok ds w) ρ = mutK i f xs ρ ds w := rfl
theorem mutK_v (i : Nat) (f : List D → List D → Option (List D)) {xs ds ys : List D} (h : f xs ds = some ys) : mutK i f xs ρ ds w = .nx (ρ.set i (.own ys)) w := by unfold mutK; rw [h]
theorem ins_v {xs : List D} {k : Nat} {d : D} (hk : k ≤ 1000000) (h : xs.length < line) : insF xs [.int (k : Int), d] = some (xs.take k ++ [d] ++ xs.drop k) := by
  unfold insF
  simp only [Int.toNat_natCast]
  rw [if_pos ⟨by omega, by omega, h⟩]
theorem bor_len (i : Nat) {xs : List D} (h : ρ[i]? = some (.own xs)) (n : noHandL xs = true) : eBor (eCall (un1 lenD) [eVar i]) ρ w = .ok (.int xs.length) w := by
  have e : (borE ρ)[i]? = some (.val (.lst xs)) := by
    unfold borE
    rw [List.getElem?_map, h]
    show some (if noHandL xs = true then Slot.val (.lst xs) else .none) = _
    rw [if_pos n]
  have e2 : eCall (un1 lenD) [eVar i] (borE ρ) none = .ok (.int xs.length) none := by
    rw [eCall_w, evs1_w, eVar_w, e, varK_v, bindK_ok, bind_w, evs0_w, bindK_ok, ret_w, bindK_ok, un1_w, len_lst]
  unfold eBor
  rw [e2]
  rfl
theorem itemMap {α : Type} {f : α → D} {xs : List α} {k : Nat} {x : α} (h : xs[k]? = some x) : itemAt (xs.map f) (k : Int) = some (f x) := item_nat (by omega) (by rw [Int.toNat_natCast, List.getElem?_map, h]; rfl)
/-! isinstance(x, (list, tuple)) -/
theorem isi_lt_i (i : Int) : isiB [.list, .tuple] (.int i) w = .ok (.bl false) w := by rw [isi_w (n := "int") rfl rfl]; rfl
theorem isi_lt_b (i : Bool) : isiB [.list, .tuple] (.bl i) w = .ok (.bl false) w := by rw [isi_w (n := "bool") rfl rfl]; rfl
theorem isi_lt_n : isiB [.list, .tuple] .non w = .ok (.bl false) w := by rw [isi_w (n := "NoneType") rfl rfl]; rfl
theorem isi_lt_s (i : Str) : isiB [.list, .tuple] (.str i) w = .ok (.bl false) w := by rw [isi_w (n := "str") rfl rfl]; rfl
theorem isi_lt_t (i : List D) : isiB [.list, .tuple] (.tup i) w = .ok (.bl true) w := by rw [isi_w (n := "tuple") rfl rfl]; rfl
theorem isi_lt_l (i : List D) : isiB [.list, .tuple] (.lst i) w = .ok (.bl true) w := by rw [isi_w (n := "list") rfl rfl]; rfl
theorem isi_lt_f (i : List D) : isiB [.list, .tuple] (.frz i) w = .ok (.bl true) w := by rw [isi_w (n := "list") rfl rfl]; rfl
/-! repr -/
theorem reprL_l {xs : List D} (h : D.flat 60 (.lst xs) = true) (s : (D.lst xs).py.showable = true) (z : (D.lst xs).py.shown.length ≤ sizeLine) : reprL [.lst xs] w = .ok (.str (D.lst xs).py.shown) w := by
  show reprK (.lst xs) w = _
  unfold reprK
  simp only [if_w]
  rw [if_pos ⟨h, s, z⟩]; rfl
end
end FL

namespace K07
open PySem FL
open L2 (V Hp FnOk Vals Binds)
def topS (i : Nat) : Stmt := PySem.Challenge.pw_wherelaid_k07_whole_loads_and_their_cent.main.body.getD i (.Pass ⟨0, 0, 0, 0⟩)
abbrev si_1 : Stmt := L2.inClass (topS 3) 0
abbrev si_2 : Stmt := L2.inClass (topS 4) 0
abbrev si_3 : Stmt := L2.inClass (topS 5) 0
abbrev s__law_hand : Stmt := topS 27
abbrev s__law_mixed : Stmt := topS 28
abbrev s__law_take : Stmt := topS 29
abbrev s_is_whole : Stmt := topS 9
abbrev s_is_ratio : Stmt := topS 10
abbrev s_is_small : Stmt := topS 11
abbrev s_is_weight : Stmt := topS 12
abbrev s_is_place : Stmt := topS 19
abbrev s_check_loads : Stmt := topS 21
abbrev s__law_try : Stmt := topS 42
abbrev s__law_gcd : Stmt := topS 30
abbrev s__law_ratio : Stmt := topS 31
abbrev s__law_plus : Stmt := topS 32
abbrev s__law_sum : Stmt := topS 35
abbrev s__law_times : Stmt := topS 33
abbrev s__law_centre : Stmt := topS 41
abbrev s__lowest : Stmt := topS 13
abbrev s_plus : Stmt := topS 14
abbrev s_sum_of : Stmt := topS 17
abbrev s_total_of : Stmt := topS 22
abbrev s_times : Stmt := topS 15
abbrev s_moment_of : Stmt := topS 23
abbrev s_over : Stmt := topS 16
abbrev s_centre_of : Stmt := topS 24
abbrev s__law_middle : Stmt := topS 43
abbrev s__law_spoilt : Stmt := topS 45
abbrev s__law_refused : Stmt := topS 46
abbrev s__law_bounded : Stmt := topS 37
abbrev s__law_arm : Stmt := topS 38
abbrev s__law_tuples : Stmt := topS 36
abbrev s__law_coordinate : Stmt := topS 39
abbrev s__law_near : Stmt := topS 40
abbrev s_one_load : Stmt := topS 25
abbrev s__law_together : Stmt := topS 44
abbrev s__law_over : Stmt := topS 34
abbrev s_law : Stmt := topS 47
structure Tx (K : PySem.W.Frag) (mg : Str → Option Value) (cm : Nat → Addr) : Prop where
  g_gcd : mg "gcd" = some (.builtin "math.gcd")
  n_abs : mg "abs" = none
  n_bool : mg "bool" = none
  n_enumerate : mg "enumerate" = none
  n_int : mg "int" = none
  n_isinstance : mg "isinstance" = none
  n_len : mg "len" = none
  n_list : mg "list" = none
  n_range : mg "range" = none
  n_repr : mg "repr" = none
  n_tuple : mg "tuple" = none
  c_SMALL : FL.GInt mg "SMALL" 1000000000000
  c_ZERO : FL.GTup K mg "ZERO" 0 1
  x_1 : mg "BadRatio" = some (.ref (cm 1))
  exc_1 {P : Program} {w : World} {base : Heap} : FL.ExcH P w K mg base "BadRatio" (cm 1) ["what"]
  x_2 : mg "BadLoads" = some (.ref (cm 2))
  exc_2 {P : Program} {w : World} {base : Heap} : FL.ExcH P w K mg base "BadLoads" (cm 2) ["index", "what"]
  x_3 : mg "NoCentre" = some (.ref (cm 3))
  exc_3 {P : Program} {w : World} {base : Heap} : FL.ExcH P w K mg base "NoCentre" (cm 3) ["many"]
  em_2_2 : PySem.W.exmOne K (.ref (cm 2)) (.ref (cm 2)) = some true
  em_3_3 : PySem.W.exmOne K (.ref (cm 3)) (.ref (cm 3)) = some true
  xf_2 : L2.XfC K (cm 2)
  xf_3 : L2.XfC K (cm 3)
  no_2_index : PySem.W.findIn K (.ref (cm 2)) "index" = some none
  no_2_what : PySem.W.findIn K (.ref (cm 2)) "what" = some none
  no_3_many : PySem.W.findIn K (.ref (cm 3)) "many" = some none
  d__law_hand : ∃ f fd, FL.DefAt K mg "_law_hand" s__law_hand [] f fd
  d__law_mixed : ∃ f fd, FL.DefAt K mg "_law_mixed" s__law_mixed [] f fd
  d__law_take : ∃ f fd, FL.DefAt K mg "_law_take" s__law_take [] f fd
  d_is_whole : ∃ f fd, FL.DefAt K mg "is_whole" s_is_whole [.non, .non] f fd
  d_is_ratio : ∃ f fd, FL.DefAt K mg "is_ratio" s_is_ratio [] f fd
  d_is_small : ∃ f fd, FL.DefAt K mg "is_small" s_is_small [] f fd
  d_is_weight : ∃ f fd, FL.DefAt K mg "is_weight" s_is_weight [] f fd
  d_is_place : ∃ f fd, FL.DefAt K mg "is_place" s_is_place [] f fd
  d_check_loads : ∃ f fd, FL.DefAt K mg "check_loads" s_check_loads [] f fd
  d__law_try : ∃ f fd, FL.DefAt K mg "_law_try" s__law_try [] f fd
  d__law_gcd : ∃ f fd, FL.DefAt K mg "_law_gcd" s__law_gcd [] f fd
  d__law_ratio : ∃ f fd, FL.DefAt K mg "_law_ratio" s__law_ratio [] f fd
  d__law_plus : ∃ f fd, FL.DefAt K mg "_law_plus" s__law_plus [] f fd
  d__law_sum : ∃ f fd, FL.DefAt K mg "_law_sum" s__law_sum [] f fd
  d__law_times : ∃ f fd, FL.DefAt K mg "_law_times" s__law_times [] f fd
  d__law_centre : ∃ f fd, FL.DefAt K mg "_law_centre" s__law_centre [] f fd
  d__lowest : ∃ f fd, FL.DefAt K mg "_lowest" s__lowest [] f fd
  d_plus : ∃ f fd, FL.DefAt K mg "plus" s_plus [] f fd
  d_sum_of : ∃ f fd, FL.DefAt K mg "sum_of" s_sum_of [] f fd
  d_total_of : ∃ f fd, FL.DefAt K mg "total_of" s_total_of [] f fd
  d_times : ∃ f fd, FL.DefAt K mg "times" s_times [] f fd
  d_moment_of : ∃ f fd, FL.DefAt K mg "moment_of" s_moment_of [] f fd
  d_over : ∃ f fd, FL.DefAt K mg "over" s_over [] f fd
  d_centre_of : ∃ f fd, FL.DefAt K mg "centre_of" s_centre_of [] f fd
  d__law_middle : ∃ f fd, FL.DefAt K mg "_law_middle" s__law_middle [] f fd
  d__law_spoilt : ∃ f fd, FL.DefAt K mg "_law_spoilt" s__law_spoilt [] f fd
  d__law_refused : ∃ f fd, FL.DefAt K mg "_law_refused" s__law_refused [] f fd
  d__law_bounded : ∃ f fd, FL.DefAt K mg "_law_bounded" s__law_bounded [] f fd
  d__law_arm : ∃ f fd, FL.DefAt K mg "_law_arm" s__law_arm [] f fd
  d__law_tuples : ∃ f fd, FL.DefAt K mg "_law_tuples" s__law_tuples [] f fd
  d__law_coordinate : ∃ f fd, FL.DefAt K mg "_law_coordinate" s__law_coordinate [] f fd
  d__law_near : ∃ f fd, FL.DefAt K mg "_law_near" s__law_near [] f fd
  d_one_load : ∃ f fd, FL.DefAt K mg "one_load" s_one_load [] f fd
  d__law_together : ∃ f fd, FL.DefAt K mg "_law_together" s__law_together [] f fd
  d__law_over : ∃ f fd, FL.DefAt K mg "_law_over" s__law_over [] f fd
  d_law : ∃ f fd, FL.DefAt K mg "law" s_law [] f fd
def fuel__law_gcd : FL.Env → Wd → Nat := fun ρ _ => match ρ[1]? with | some (Slot.val (D.int j)) => j.natAbs + 1 | _ => 0
section
variable {P : Program} {w : World} {K : PySem.W.Frag} {mg : Str → Option Value} {base : Heap} {cm : Nat → Addr}
abbrev N__law_hand : List Str := ["script", "total", "cells", "cell"]
theorem sc__law_hand : L2.FnScope N__law_hand ["script"] (L2.defScope s__law_hand) := ⟨rfl, rfl, rfl, by decide +kernel, rfl, by decide +kernel, by decide +kernel⟩
def B__law_hand_0 : SF := (sSeq (sSet 1 (eBin modD (eCall (un1 intD) [(eBin addD (eBin mulD (eVar 1) (eC (.int 1021))) (eCall (un1 intD) [(eVar 3)]))]) (eC (.int 2147483587)))) (sApp 2 (eCall (un1 absD) [(eCall (un1 intD) [(eVar 3)])])))
theorem B__law_hand_0_w {ρ : FL.Env} {w : Wd} : B__law_hand_0 ρ w = (sSeq (sSet 1 (eBin modD (eCall (un1 intD) [(eBin addD (eBin mulD (eVar 1) (eC (.int 1021))) (eCall (un1 intD) [(eVar 3)]))]) (eC (.int 2147483587)))) (sApp 2 (eCall (un1 absD) [(eCall (un1 intD) [(eVar 3)])]))) ρ w := rfl
def F__law_hand : List D → M D := callF 4 (sSeq (sSet 1 (eBin addD (eCall (un1 lenD) [(eVar 0)]) (eC (.int 53)))) (sSeq (sOwn 2 (evs [])) (sSeq (sFor (iSeq (eVar 0)) (gN 3) B__law_hand_0) (sSeq (sFrz 2) (sRet (eHand [(eVar 2), (eC (.int 0)), (eC (.int 0)), (eVar 1)]))))))
theorem has__law_hand (T : Tx K mg cm)  : FL.Has P w K mg base cm "_law_hand" 2 ["script"] [[]] [] 1 F__law_hand :=
  FL.has_of T.d__law_hand sc__law_hand rfl rfl (by decide) (fun _ _ _ _ _ _ us hl => match us, hl with | [_], _ => rfl) (fun f cdv A outer s H E q hr => by have tk : L2.Takes (L2.cxOf (L2.CX P w) P w K mg base N__law_hand "_law_hand" (L2.defScope s__law_hand) f cdv A outer s H E) (fun cls d _ H' => E cls d H') := L2.takes_of rfl rfl rfl rfl; have pa : PassesOwn (model P w) (L2.cxOf (L2.CX P w) P w K mg base N__law_hand "_law_hand" (L2.defScope s__law_hand) f cdv A outer s H E).A (L2.cxOf (L2.CX P w) P w K mg base N__law_hand "_law_hand" (L2.defScope s__law_hand) f cdv A outer s H E).env (L2.cxOf (L2.CX P w) P w K mg base N__law_hand "_law_hand" (L2.defScope s__law_hand) f cdv A outer s H E).xe := L2.passes_of rfl; exact (FL.pssx_cons (FL.psx_set sc__law_hand.nd (i := 1) rfl (by first | exact Or.inl rfl | exact Or.inr rfl) (FL.px_bin FL.op_addA FL.add_ok (FL.px_callB L2.call_len FL.len_ok (by rfl) T.n_len FL.bt_len (FL.pax_cons (FL.px_var 0) FL.pax_nil)) FL.px_int)) (FL.pssx_cons (FL.psx_own sc__law_hand.nd (i := 2) rfl (by first | exact Or.inl rfl | exact Or.inr rfl) (FL.pnx_lst FL.pax_nil)) (FL.pssx_cons (FL.psx_for pa rfl (FL.pix_any (FL.px_var 0)) (L2.pg_name (i := 3) sc__law_hand.nd rfl (by first | exact Or.inl rfl | exact Or.inr rfl)) (FL.tgx_n 3) (FL.pssx_cons (FL.psx_set sc__law_hand.nd (i := 1) rfl (by first | exact Or.inl rfl | exact Or.inr rfl) (FL.px_bin L2.op_modN FL.mod_ok (FL.px_callTy L2.call_int1 FL.int_ok (by rfl) T.n_int FL.bt_int (FL.pax_cons (FL.px_bin FL.op_addA FL.add_ok (FL.px_bin L2.op_mulW FL.mul_ok (FL.px_var 1) FL.px_int) (FL.px_callTy L2.call_int1 FL.int_ok (by rfl) T.n_int FL.bt_int (FL.pax_cons (FL.px_var 3) FL.pax_nil))) FL.pax_nil)) FL.px_int)) (FL.pssx_one (FL.psx_appE 2 (FL.px_callB L2.call_abs FL.abs_ok (by rfl) T.n_abs FL.bt_abs (FL.pax_cons (FL.px_callTy L2.call_int1 FL.int_ok (by rfl) T.n_int FL.bt_int (FL.pax_cons (FL.px_var 3) FL.pax_nil)) FL.pax_nil)))))) (FL.pssx_frz 2 (FL.pssx_one (FL.psx_ret (FL.px_hand (FL.pax_cons (FL.px_var 2) (FL.pax_cons FL.px_int (FL.pax_cons FL.px_int (FL.pax_cons (FL.px_var 1) FL.pax_nil))))))))))))
abbrev N__law_mixed : List Str := ["number", "turn", "once", "twice"]
theorem sc__law_mixed : L2.FnScope N__law_mixed ["number", "turn"] (L2.defScope s__law_mixed) := ⟨rfl, rfl, rfl, by decide +kernel, rfl, by decide +kernel, by decide +kernel⟩
def F__law_mixed : List D → M D := callF 4 (sSeq (sSet 2 (eBin modD (eCall (un1 intD) [(eBin addD (eBin addD (eBin mulD (eVar 0) (eC (.int 69621))) (eBin mulD (eVar 1) (eC (.int 7907)))) (eC (.int 40503)))]) (eC (.int 2147483647)))) (sSeq (sSet 3 (eBin modD (eCall (un1 intD) [(eBin addD (eBin addD (eBin mulD (eVar 2) (eVar 2)) (eBin mulD (eVar 1) (eC (.int 104723)))) (eBin fdivD (eVar 2) (eC (.int 131))))]) (eC (.int 2147483629)))) (sRet (eBin fdivD (eCall (un1 intD) [(eBin modD (eCall (un1 intD) [(eBin addD (eBin mulD (eVar 3) (eC (.int 48271))) (eBin fdivD (eVar 2) (eC (.int 7))))]) (eC (.int 2147483579)))]) (eC (.int 32))))))
theorem has__law_mixed (T : Tx K mg cm)  : FL.Has P w K mg base cm "_law_mixed" 2 ["number", "turn"] [[]] [] 2 F__law_mixed :=
  FL.has_of T.d__law_mixed sc__law_mixed rfl rfl (by decide) (fun _ _ _ _ _ _ us hl => match us, hl with | [_, _], _ => rfl) (fun f cdv A outer s H E q hr => by have tk : L2.Takes (L2.cxOf (L2.CX P w) P w K mg base N__law_mixed "_law_mixed" (L2.defScope s__law_mixed) f cdv A outer s H E) (fun cls d _ H' => E cls d H') := L2.takes_of rfl rfl rfl rfl; have pa : PassesOwn (model P w) (L2.cxOf (L2.CX P w) P w K mg base N__law_mixed "_law_mixed" (L2.defScope s__law_mixed) f cdv A outer s H E).A (L2.cxOf (L2.CX P w) P w K mg base N__law_mixed "_law_mixed" (L2.defScope s__law_mixed) f cdv A outer s H E).env (L2.cxOf (L2.CX P w) P w K mg base N__law_mixed "_law_mixed" (L2.defScope s__law_mixed) f cdv A outer s H E).xe := L2.passes_of rfl; exact (FL.pssx_cons (FL.psx_set sc__law_mixed.nd (i := 2) rfl (by first | exact Or.inl rfl | exact Or.inr rfl) (FL.px_bin L2.op_modN FL.mod_ok (FL.px_callTy L2.call_int1 FL.int_ok (by rfl) T.n_int FL.bt_int (FL.pax_cons (FL.px_bin FL.op_addA FL.add_ok (FL.px_bin FL.op_addA FL.add_ok (FL.px_bin L2.op_mulW FL.mul_ok (FL.px_var 0) FL.px_int) (FL.px_bin L2.op_mulW FL.mul_ok (FL.px_var 1) FL.px_int)) FL.px_int) FL.pax_nil)) FL.px_int)) (FL.pssx_cons (FL.psx_set sc__law_mixed.nd (i := 3) rfl (by first | exact Or.inl rfl | exact Or.inr rfl) (FL.px_bin L2.op_modN FL.mod_ok (FL.px_callTy L2.call_int1 FL.int_ok (by rfl) T.n_int FL.bt_int (FL.pax_cons (FL.px_bin FL.op_addA FL.add_ok (FL.px_bin FL.op_addA FL.add_ok (FL.px_bin L2.op_mulW FL.mul_ok (FL.px_var 2) (FL.px_var 2)) (FL.px_bin L2.op_mulW FL.mul_ok (FL.px_var 1) FL.px_int)) (FL.px_bin FL.op_fdivZ FL.fdiv_ok (FL.px_var 2) FL.px_int)) FL.pax_nil)) FL.px_int)) (FL.pssx_one (FL.psx_ret (FL.px_bin FL.op_fdivZ FL.fdiv_ok (FL.px_callTy L2.call_int1 FL.int_ok (by rfl) T.n_int FL.bt_int (FL.pax_cons (FL.px_bin L2.op_modN FL.mod_ok (FL.px_callTy L2.call_int1 FL.int_ok (by rfl) T.n_int FL.bt_int (FL.pax_cons (FL.px_bin FL.op_addA FL.add_ok (FL.px_bin L2.op_mulW FL.mul_ok (FL.px_var 3) FL.px_int) (FL.px_bin FL.op_fdivZ FL.fdiv_ok (FL.px_var 2) FL.px_int)) FL.pax_nil)) FL.px_int) FL.pax_nil)) FL.px_int))))))
abbrev N__law_take : List Str := ["hand", "many", "cell", "rest"]
theorem sc__law_take : L2.FnScope N__law_take ["hand", "many"] (L2.defScope s__law_take) := ⟨rfl, rfl, rfl, by decide +kernel, rfl, by decide +kernel, by decide +kernel⟩
def F__law_take : List D → M D := callF 4 (sSeq (sIf (tAnd (tVal (eBin eqD (eBin ixD (eVar 0) (eC (.int 2))) (eC (.int 0)))) (tVal (eBin ltD (eBin ixD (eVar 0) (eC (.int 1))) (eCall (un1 lenD) [(eBin ixD (eVar 0) (eC (.int 0)))])))) (sSeq (sSet 2 (eBin ixD (eBin ixD (eVar 0) (eC (.int 0))) (eBin ixD (eVar 0) (eC (.int 1))))) (sSeq (sHSet (eVar 0) (eC (.int 1)) (eBin addD (eBin ixD (eVar 0) (eC (.int 1))) (eC (.int 1)))) (sSeq (sIf (tVal (eBin ltD (eVar 2) (eBin powD (eC (.int 10)) (eC (.int 18))))) (sRet (eBin modD (eCall (un1 intD) [(eCall F__law_mixed [(eBin modD (eCall (un1 intD) [(eVar 2)]) (eC (.int 2147483647))), (eBin ixD (eVar 0) (eC (.int 1)))])]) (eVar 1))) sNext) (sHSet (eVar 0) (eC (.int 2)) (eVar 2))))) sNext) (sSeq (sIf (tVal (eBin gtD (eBin ixD (eVar 0) (eC (.int 2))) (eC (.int 0)))) (sSeq (sSet 3 (eBin ixD (eVar 0) (eC (.int 2)))) (sSeq (sHSet (eVar 0) (eC (.int 2)) (eBin fdivD (eCall (un1 intD) [(eVar 3)]) (eVar 1))) (sRet (eBin modD (eCall (un1 intD) [(eVar 3)]) (eVar 1))))) sNext) (sSeq (sHSet (eVar 0) (eC (.int 3)) (eBin modD (eCall (un1 intD) [(eBin addD (eBin ixD (eVar 0) (eC (.int 3))) (eC (.int 1)))]) (eC (.int 2147483587)))) (sRet (eBin modD (eCall (un1 intD) [(eCall F__law_mixed [(eBin ixD (eVar 0) (eC (.int 3))), (eBin ixD (eVar 0) (eC (.int 1)))])]) (eVar 1))))))
theorem has__law_take (T : Tx K mg cm) (G__law_mixed : FL.Has P w K mg base cm "_law_mixed" 2 ["number", "turn"] [[]] [] 2 F__law_mixed) : FL.Has P w K mg base cm "_law_take" 3 ["hand", "many"] [[]] [] 2 F__law_take :=
  FL.has_of T.d__law_take sc__law_take rfl rfl (by decide) (fun _ _ _ _ _ _ us hl => match us, hl with | [_, _], _ => rfl) (fun f cdv A outer s H E q hr => by have tk : L2.Takes (L2.cxOf (L2.CX P w) P w K mg base N__law_take "_law_take" (L2.defScope s__law_take) f cdv A outer s H E) (fun cls d _ H' => E cls d H') := L2.takes_of rfl rfl rfl rfl; have pa : PassesOwn (model P w) (L2.cxOf (L2.CX P w) P w K mg base N__law_take "_law_take" (L2.defScope s__law_take) f cdv A outer s H E).A (L2.cxOf (L2.CX P w) P w K mg base N__law_take "_law_take" (L2.defScope s__law_take) f cdv A outer s H E).env (L2.cxOf (L2.CX P w) P w K mg base N__law_take "_law_take" (L2.defScope s__law_take) f cdv A outer s H E).xe := L2.passes_of rfl; exact (FL.pssx_cons (FL.psx_if (FL.PWX.pt (FL.pwx_and (FL.ptx_cmp (L2.op_eqD (FL.hu64 hr)) FL.eq_ok (FL.px_ix (FL.px_var 0) FL.px_int) FL.px_int (L2.nomark _)) (FL.pwx_and1 (FL.ptx_cmp L2.op_lt FL.lt_ok (FL.px_ix (FL.px_var 0) FL.px_int) (FL.px_callB L2.call_len FL.len_ok (by rfl) T.n_len FL.bt_len (FL.pax_cons (FL.px_ix (FL.px_var 0) FL.px_int) FL.pax_nil)) (L2.nomark _))))) (FL.pssx_cons (FL.psx_set sc__law_take.nd (i := 2) rfl (by first | exact Or.inl rfl | exact Or.inr rfl) (FL.px_ix (FL.px_ix (FL.px_var 0) FL.px_int) (FL.px_ix (FL.px_var 0) FL.px_int))) (FL.pssx_cons (FL.psx_hset (FL.px_bin FL.op_addA FL.add_ok (FL.px_ix (FL.px_var 0) FL.px_int) FL.px_int) (FL.px_var 0) FL.px_int (L2.pg_sub (FL.px_var 0) FL.px_int L2.set_list)) (FL.pssx_cons (FL.psx_if (FL.ptx_cmp L2.op_lt FL.lt_ok (FL.px_var 2) (FL.px_bin L2.op_pow FL.pow_ok FL.px_int FL.px_int) (L2.nomark _)) (FL.pssx_one (FL.psx_ret (FL.px_bin L2.op_modN FL.mod_ok (FL.px_callTy L2.call_int1 FL.int_ok (by rfl) T.n_int FL.bt_int (FL.pax_cons (FL.px_has G__law_mixed (hr.mono (by decide)) tk (by rfl) (FL.pax_cons (FL.px_bin L2.op_modN FL.mod_ok (FL.px_callTy L2.call_int1 FL.int_ok (by rfl) T.n_int FL.bt_int (FL.pax_cons (FL.px_var 2) FL.pax_nil)) FL.px_int) (FL.pax_cons (FL.px_ix (FL.px_var 0) FL.px_int) FL.pax_nil))) FL.pax_nil)) (FL.px_var 1)))) FL.pssx_nil) (FL.pssx_one (FL.psx_hset (FL.px_var 2) (FL.px_var 0) FL.px_int (L2.pg_sub (FL.px_var 0) FL.px_int L2.set_list)))))) FL.pssx_nil) (FL.pssx_cons (FL.psx_if (FL.ptx_cmp L2.op_gt FL.gt_ok (FL.px_ix (FL.px_var 0) FL.px_int) FL.px_int (L2.nomark _)) (FL.pssx_cons (FL.psx_set sc__law_take.nd (i := 3) rfl (by first | exact Or.inl rfl | exact Or.inr rfl) (FL.px_ix (FL.px_var 0) FL.px_int)) (FL.pssx_cons (FL.psx_hset (FL.px_bin FL.op_fdivZ FL.fdiv_ok (FL.px_callTy L2.call_int1 FL.int_ok (by rfl) T.n_int FL.bt_int (FL.pax_cons (FL.px_var 3) FL.pax_nil)) (FL.px_var 1)) (FL.px_var 0) FL.px_int (L2.pg_sub (FL.px_var 0) FL.px_int L2.set_list)) (FL.pssx_one (FL.psx_ret (FL.px_bin L2.op_modN FL.mod_ok (FL.px_callTy L2.call_int1 FL.int_ok (by rfl) T.n_int FL.bt_int (FL.pax_cons (FL.px_var 3) FL.pax_nil)) (FL.px_var 1)))))) FL.pssx_nil) (FL.pssx_cons (FL.psx_hset (FL.px_bin L2.op_modN FL.mod_ok (FL.px_callTy L2.call_int1 FL.int_ok (by rfl) T.n_int FL.bt_int (FL.pax_cons (FL.px_bin FL.op_addA FL.add_ok (FL.px_ix (FL.px_var 0) FL.px_int) FL.px_int) FL.pax_nil)) FL.px_int) (FL.px_var 0) FL.px_int (L2.pg_sub (FL.px_var 0) FL.px_int L2.set_list)) (FL.pssx_one (FL.psx_ret (FL.px_bin L2.op_modN FL.mod_ok (FL.px_callTy L2.call_int1 FL.int_ok (by rfl) T.n_int FL.bt_int (FL.pax_cons (FL.px_has G__law_mixed (hr.mono (by decide)) tk (by rfl) (FL.pax_cons (FL.px_ix (FL.px_var 0) FL.px_int) (FL.pax_cons (FL.px_ix (FL.px_var 0) FL.px_int) FL.pax_nil))) FL.pax_nil)) (FL.px_var 1))))))))
abbrev N_is_whole : List Str := ["thing", "low", "high"]
theorem sc_is_whole : L2.FnScope N_is_whole ["thing", "low", "high"] (L2.defScope s_is_whole) := ⟨rfl, rfl, rfl, by decide +kernel, rfl, by decide +kernel, by decide +kernel⟩
def F_is_whole : List D → M D := callF 3 (sSeq (sIf (tOr (tNot (tTru (eUn (isiB [.int]) (eVar 0)))) (tTru (eUn (isiB [.bool]) (eVar 0)))) (sRet (eC (.bl false))) sNext) (sSeq (sIf (tAnd (tVal (eBin notNonD (eVar 1) (eC .non))) (tVal (eBin ltD (eVar 0) (eVar 1)))) (sRet (eC (.bl false))) sNext) (sRet (eOr (eBin isNonD (eVar 2) (eC .non)) (eBin leD (eVar 0) (eVar 2))))))
theorem has_is_whole (T : Tx K mg cm)  : FL.Has P w K mg base cm "is_whole" 2 ["thing", "low", "high"] [[.non, .non], [.non]] [] 3 F_is_whole :=
  FL.has_ofD (dds := [.non, .non]) (dvs := [.non, .non]) T.d_is_whole sc_is_whole rfl rfl (by decide) (by simp) (by intros; simp [FL.RepL, FL.Rep]) (fun e he => by 
      rcases List.mem_cons.mp he with e | he
      · rw [e]; exact ⟨1, 0, rfl, rfl, fun T kV doc pm an cdv ct us its hl hi => match us, its, hl, hi with | [_], [_, _], _, _ => ⟨_, rfl, rfl⟩⟩
      rw [List.mem_singleton.mp he]; exact ⟨2, 1, rfl, rfl, fun T kV doc pm an cdv ct us its hl hi => match us, its, hl, hi with | [_, _], [_, _], _, _ => ⟨_, rfl, rfl⟩⟩) (fun e he => by cases he) (fun f cdv A outer s H E q hr => by have tk : L2.Takes (L2.cxOf (L2.CX P w) P w K mg base N_is_whole "is_whole" (L2.defScope s_is_whole) f cdv A outer s H E) (fun cls d _ H' => E cls d H') := L2.takes_of rfl rfl rfl rfl; have pa : PassesOwn (model P w) (L2.cxOf (L2.CX P w) P w K mg base N_is_whole "is_whole" (L2.defScope s_is_whole) f cdv A outer s H E).A (L2.cxOf (L2.CX P w) P w K mg base N_is_whole "is_whole" (L2.defScope s_is_whole) f cdv A outer s H E).env (L2.cxOf (L2.CX P w) P w K mg base N_is_whole "is_whole" (L2.defScope s_is_whole) f cdv A outer s H E).xe := L2.passes_of rfl; exact (FL.pssx_cons (FL.psx_if (FL.PWX.pt (FL.pwx_or (FL.ptx_not (FL.ptx_tru (FL.px_isi .int (by rfl) T.n_isinstance (by rfl) T.n_int FL.bt_int (FL.px_var 0)))) (FL.pwx_or1 (FL.ptx_tru (FL.px_isi .bool (by rfl) T.n_isinstance (by rfl) T.n_bool FL.bt_bool (FL.px_var 0)))))) (FL.pssx_one (FL.psx_ret FL.px_bl)) FL.pssx_nil) (FL.pssx_cons (FL.psx_if (FL.PWX.pt (FL.pwx_and (FL.ptx_cmp L2.op_notN FL.notNon_ok (FL.px_var 1) FL.px_non (L2.nomark _)) (FL.pwx_and1 (FL.ptx_cmp L2.op_lt FL.lt_ok (FL.px_var 0) (FL.px_var 1) (L2.nomark _))))) (FL.pssx_one (FL.psx_ret FL.px_bl)) FL.pssx_nil) (FL.pssx_one (FL.psx_ret (FL.px_or (FL.px_cmp L2.op_isN FL.isNon_ok (FL.px_var 2) FL.px_non (L2.nomark _)) (FL.px_one (FL.px_cmp L2.op_le FL.le_ok (FL.px_var 0) (FL.px_var 2) (L2.nomark _)))))))))
abbrev N_is_ratio : List Str := ["thing"]
theorem sc_is_ratio : L2.FnScope N_is_ratio ["thing"] (L2.defScope s_is_ratio) := ⟨rfl, rfl, rfl, by decide +kernel, rfl, by decide +kernel, by decide +kernel⟩
def F_is_ratio : List D → M D := callF 1 (sSeq (sIf (tOr (tNot (tTru (eUn (isiB [.tuple]) (eVar 0)))) (tVal (eBin neD (eCall (un1 lenD) [(eVar 0)]) (eC (.int 2))))) (sRet (eC (.bl false))) sNext) (sSeq (sIf (tOr (tNot (tTru (eCall (fun ds => F_is_whole (ds ++ [.non, .non])) [(eBin ixD (eVar 0) (eC (.int 0)))]))) (tNot (tTru (eCall (fun ds => F_is_whole (ds ++ [.non])) [(eBin ixD (eVar 0) (eC (.int 1))), (eC (.int 1))])))) (sRet (eC (.bl false))) sNext) (sRet (eBin eqD (eCall (bin2 gcdD) [(eBin ixD (eVar 0) (eC (.int 0))), (eBin ixD (eVar 0) (eC (.int 1)))]) (eC (.int 1))))))
theorem has_is_ratio (T : Tx K mg cm) (G_is_whole : FL.Has P w K mg base cm "is_whole" 2 ["thing", "low", "high"] [[.non, .non], [.non]] [] 3 F_is_whole) : FL.Has P w K mg base cm "is_ratio" 3 ["thing"] [[]] [] 1 F_is_ratio :=
  FL.has_of T.d_is_ratio sc_is_ratio rfl rfl (by decide) (fun _ _ _ _ _ _ us hl => match us, hl with | [_], _ => rfl) (fun f cdv A outer s H E q hr => by have tk : L2.Takes (L2.cxOf (L2.CX P w) P w K mg base N_is_ratio "is_ratio" (L2.defScope s_is_ratio) f cdv A outer s H E) (fun cls d _ H' => E cls d H') := L2.takes_of rfl rfl rfl rfl; have pa : PassesOwn (model P w) (L2.cxOf (L2.CX P w) P w K mg base N_is_ratio "is_ratio" (L2.defScope s_is_ratio) f cdv A outer s H E).A (L2.cxOf (L2.CX P w) P w K mg base N_is_ratio "is_ratio" (L2.defScope s_is_ratio) f cdv A outer s H E).env (L2.cxOf (L2.CX P w) P w K mg base N_is_ratio "is_ratio" (L2.defScope s_is_ratio) f cdv A outer s H E).xe := L2.passes_of rfl; exact (FL.pssx_cons (FL.psx_if (FL.PWX.pt (FL.pwx_or (FL.ptx_not (FL.ptx_tru (FL.px_isi .tuple (by rfl) T.n_isinstance (by rfl) T.n_tuple FL.bt_tuple (FL.px_var 0)))) (FL.pwx_or1 (FL.ptx_cmp (L2.op_neD (FL.hu64 hr)) FL.ne_ok (FL.px_callB L2.call_len FL.len_ok (by rfl) T.n_len FL.bt_len (FL.pax_cons (FL.px_var 0) FL.pax_nil)) FL.px_int (L2.nomark _))))) (FL.pssx_one (FL.psx_ret FL.px_bl)) FL.pssx_nil) (FL.pssx_cons (FL.psx_if (FL.PWX.pt (FL.pwx_or (FL.ptx_not (FL.ptx_tru (FL.px_hasD [.non, .non] G_is_whole (hr.mono (by decide)) tk (by rfl) (FL.pax_cons (FL.px_ix (FL.px_var 0) FL.px_int) FL.pax_nil)))) (FL.pwx_or1 (FL.ptx_not (FL.ptx_tru (FL.px_hasD [.non] G_is_whole (hr.mono (by decide)) tk (by rfl) (FL.pax_cons (FL.px_ix (FL.px_var 0) FL.px_int) (FL.pax_cons FL.px_int FL.pax_nil)))))))) (FL.pssx_one (FL.psx_ret FL.px_bl)) FL.pssx_nil) (FL.pssx_one (FL.psx_ret (FL.px_cmp (L2.op_eqD (FL.hu64 hr)) FL.eq_ok (FL.px_callF L2.cr_gcd FL.gcd_ok (by rfl) T.g_gcd (FL.pax_cons (FL.px_ix (FL.px_var 0) FL.px_int) (FL.pax_cons (FL.px_ix (FL.px_var 0) FL.px_int) FL.pax_nil))) FL.px_int (L2.nomark _)))))))
abbrev N_is_small : List Str := ["thing"]
theorem sc_is_small : L2.FnScope N_is_small ["thing"] (L2.defScope s_is_small) := ⟨rfl, rfl, rfl, by decide +kernel, rfl, by decide +kernel, by decide +kernel⟩
def F_is_small : List D → M D := callF 1 (sRet (eAnd (eCall F_is_ratio [(eVar 0)]) (eAnd (eChain leD leD (eUn negD (eC (.int 1000000000000))) (eBin ixD (eVar 0) (eC (.int 0))) (eC (.int 1000000000000))) (eBin leD (eBin ixD (eVar 0) (eC (.int 1))) (eC (.int 1000000000000))))))
theorem has_is_small (T : Tx K mg cm) (G_is_ratio : FL.Has P w K mg base cm "is_ratio" 3 ["thing"] [[]] [] 1 F_is_ratio) : FL.Has P w K mg base cm "is_small" 4 ["thing"] [[]] [] 1 F_is_small :=
  FL.has_of T.d_is_small sc_is_small rfl rfl (by decide) (fun _ _ _ _ _ _ us hl => match us, hl with | [_], _ => rfl) (fun f cdv A outer s H E q hr => by have tk : L2.Takes (L2.cxOf (L2.CX P w) P w K mg base N_is_small "is_small" (L2.defScope s_is_small) f cdv A outer s H E) (fun cls d _ H' => E cls d H') := L2.takes_of rfl rfl rfl rfl; have pa : PassesOwn (model P w) (L2.cxOf (L2.CX P w) P w K mg base N_is_small "is_small" (L2.defScope s_is_small) f cdv A outer s H E).A (L2.cxOf (L2.CX P w) P w K mg base N_is_small "is_small" (L2.defScope s_is_small) f cdv A outer s H E).env (L2.cxOf (L2.CX P w) P w K mg base N_is_small "is_small" (L2.defScope s_is_small) f cdv A outer s H E).xe := L2.passes_of rfl; exact (FL.pssx_one (FL.psx_ret (FL.px_and (FL.px_has G_is_ratio (hr.mono (by decide)) tk (by rfl) (FL.pax_cons (FL.px_var 0) FL.pax_nil)) (FL.px_and (FL.px_chain L2.op_le FL.le_ok L2.op_le FL.le_ok (FL.px_un L2.un_neg FL.neg_ok (FL.px_gintE (by rfl) T.c_SMALL)) (FL.px_ix (FL.px_var 0) FL.px_int) (FL.px_gintE (by rfl) T.c_SMALL)) (FL.px_one (FL.px_cmp L2.op_le FL.le_ok (FL.px_ix (FL.px_var 0) FL.px_int) (FL.px_gintE (by rfl) T.c_SMALL) (L2.nomark _))))))))
abbrev N_is_weight : List Str := ["thing"]
theorem sc_is_weight : L2.FnScope N_is_weight ["thing"] (L2.defScope s_is_weight) := ⟨rfl, rfl, rfl, by decide +kernel, rfl, by decide +kernel, by decide +kernel⟩
def F_is_weight : List D → M D := callF 1 (sRet (eAnd (eCall F_is_small [(eVar 0)]) (eBin geD (eBin ixD (eVar 0) (eC (.int 0))) (eC (.int 0)))))
theorem has_is_weight (T : Tx K mg cm) (G_is_small : FL.Has P w K mg base cm "is_small" 4 ["thing"] [[]] [] 1 F_is_small) : FL.Has P w K mg base cm "is_weight" 5 ["thing"] [[]] [] 1 F_is_weight :=
  FL.has_of T.d_is_weight sc_is_weight rfl rfl (by decide) (fun _ _ _ _ _ _ us hl => match us, hl with | [_], _ => rfl) (fun f cdv A outer s H E q hr => by have tk : L2.Takes (L2.cxOf (L2.CX P w) P w K mg base N_is_weight "is_weight" (L2.defScope s_is_weight) f cdv A outer s H E) (fun cls d _ H' => E cls d H') := L2.takes_of rfl rfl rfl rfl; have pa : PassesOwn (model P w) (L2.cxOf (L2.CX P w) P w K mg base N_is_weight "is_weight" (L2.defScope s_is_weight) f cdv A outer s H E).A (L2.cxOf (L2.CX P w) P w K mg base N_is_weight "is_weight" (L2.defScope s_is_weight) f cdv A outer s H E).env (L2.cxOf (L2.CX P w) P w K mg base N_is_weight "is_weight" (L2.defScope s_is_weight) f cdv A outer s H E).xe := L2.passes_of rfl; exact (FL.pssx_one (FL.psx_ret (FL.px_and (FL.px_has G_is_small (hr.mono (by decide)) tk (by rfl) (FL.pax_cons (FL.px_var 0) FL.pax_nil)) (FL.px_one (FL.px_cmp L2.op_ge FL.ge_ok (FL.px_ix (FL.px_var 0) FL.px_int) FL.px_int (L2.nomark _)))))))
abbrev N_is_place : List Str := ["thing"]
theorem sc_is_place : L2.FnScope N_is_place ["thing"] (L2.defScope s_is_place) := ⟨rfl, rfl, rfl, by decide +kernel, rfl, by decide +kernel, by decide +kernel⟩
def F_is_place : List D → M D := callF 1 (sSeq (sIf (tOr (tNot (tTru (eUn (isiB [.list, .tuple]) (eVar 0)))) (tVal (eBin neD (eCall (un1 lenD) [(eVar 0)]) (eC (.int 2))))) (sRet (eC (.bl false))) sNext) (sRet (eAnd (eCall F_is_small [(eBin ixD (eVar 0) (eC (.int 0)))]) (eCall F_is_small [(eBin ixD (eVar 0) (eC (.int 1)))]))))
theorem has_is_place (T : Tx K mg cm) (G_is_small : FL.Has P w K mg base cm "is_small" 4 ["thing"] [[]] [] 1 F_is_small) : FL.Has P w K mg base cm "is_place" 5 ["thing"] [[]] [] 1 F_is_place :=
  FL.has_of T.d_is_place sc_is_place rfl rfl (by decide) (fun _ _ _ _ _ _ us hl => match us, hl with | [_], _ => rfl) (fun f cdv A outer s H E q hr => by have tk : L2.Takes (L2.cxOf (L2.CX P w) P w K mg base N_is_place "is_place" (L2.defScope s_is_place) f cdv A outer s H E) (fun cls d _ H' => E cls d H') := L2.takes_of rfl rfl rfl rfl; have pa : PassesOwn (model P w) (L2.cxOf (L2.CX P w) P w K mg base N_is_place "is_place" (L2.defScope s_is_place) f cdv A outer s H E).A (L2.cxOf (L2.CX P w) P w K mg base N_is_place "is_place" (L2.defScope s_is_place) f cdv A outer s H E).env (L2.cxOf (L2.CX P w) P w K mg base N_is_place "is_place" (L2.defScope s_is_place) f cdv A outer s H E).xe := L2.passes_of rfl; exact (FL.pssx_cons (FL.psx_if (FL.PWX.pt (FL.pwx_or (FL.ptx_not (FL.ptx_tru (FL.px_isi2 .list .tuple (by rfl) T.n_isinstance (by rfl) T.n_list FL.bt_list (by rfl) T.n_tuple FL.bt_tuple (FL.px_var 0)))) (FL.pwx_or1 (FL.ptx_cmp (L2.op_neD (FL.hu64 hr)) FL.ne_ok (FL.px_callB L2.call_len FL.len_ok (by rfl) T.n_len FL.bt_len (FL.pax_cons (FL.px_var 0) FL.pax_nil)) FL.px_int (L2.nomark _))))) (FL.pssx_one (FL.psx_ret FL.px_bl)) FL.pssx_nil) (FL.pssx_one (FL.psx_ret (FL.px_and (FL.px_has G_is_small (hr.mono (by decide)) tk (by rfl) (FL.pax_cons (FL.px_ix (FL.px_var 0) FL.px_int) FL.pax_nil)) (FL.px_one (FL.px_has G_is_small (hr.mono (by decide)) tk (by rfl) (FL.pax_cons (FL.px_ix (FL.px_var 0) FL.px_int) FL.pax_nil))))))))
abbrev N_check_loads : List Str := ["loads", "found", "index", "load"]
theorem sc_check_loads : L2.FnScope N_check_loads ["loads"] (L2.defScope s_check_loads) := ⟨rfl, rfl, rfl, by decide +kernel, rfl, by decide +kernel, by decide +kernel⟩
def B_check_loads_0 : SF := (sSeq (sIf (tOr (tNot (tTru (eUn (isiB [.list, .tuple]) (eVar 3)))) (tVal (eBin neD (eCall (un1 lenD) [(eVar 3)]) (eC (.int 2))))) (sRaise 2 ["index", "what"] [(eVar 2), (eC (.str "load"))]) sNext) (sSeq (sIf (tNot (tTru (eCall F_is_weight [(eBin ixD (eVar 3) (eC (.int 0)))]))) (sRaise 2 ["index", "what"] [(eVar 2), (eC (.str "weight"))]) sNext) (sSeq (sIf (tNot (tTru (eCall F_is_place [(eBin ixD (eVar 3) (eC (.int 1)))]))) (sRaise 2 ["index", "what"] [(eVar 2), (eC (.str "place"))]) sNext) (sApp 1 (eTup [(eBin ixD (eVar 3) (eC (.int 0))), (eTup [(eBin ixD (eBin ixD (eVar 3) (eC (.int 1))) (eC (.int 0))), (eBin ixD (eBin ixD (eVar 3) (eC (.int 1))) (eC (.int 1)))])])))))
theorem B_check_loads_0_w {ρ : FL.Env} {w : Wd} : B_check_loads_0 ρ w = (sSeq (sIf (tOr (tNot (tTru (eUn (isiB [.list, .tuple]) (eVar 3)))) (tVal (eBin neD (eCall (un1 lenD) [(eVar 3)]) (eC (.int 2))))) (sRaise 2 ["index", "what"] [(eVar 2), (eC (.str "load"))]) sNext) (sSeq (sIf (tNot (tTru (eCall F_is_weight [(eBin ixD (eVar 3) (eC (.int 0)))]))) (sRaise 2 ["index", "what"] [(eVar 2), (eC (.str "weight"))]) sNext) (sSeq (sIf (tNot (tTru (eCall F_is_place [(eBin ixD (eVar 3) (eC (.int 1)))]))) (sRaise 2 ["index", "what"] [(eVar 2), (eC (.str "place"))]) sNext) (sApp 1 (eTup [(eBin ixD (eVar 3) (eC (.int 0))), (eTup [(eBin ixD (eBin ixD (eVar 3) (eC (.int 1))) (eC (.int 0))), (eBin ixD (eBin ixD (eVar 3) (eC (.int 1))) (eC (.int 1)))])]))))) ρ w := rfl
def F_check_loads : List D → M D := callF 4 (sSeq (sIf (tOr (tNot (tTru (eUn (isiB [.list, .tuple]) (eVar 0)))) (tVal (eBin gtD (eCall (un1 lenD) [(eVar 0)]) (eC (.int 8))))) (sRaise 2 ["index", "what"] [(eC (.int 0)), (eC (.str "many"))]) sNext) (sSeq (sOwn 1 (evs [])) (sSeq (sFor (iEnum (eVar 0)) (gT [2, 3]) B_check_loads_0) (sSeq (sFrz 1) (sRet (eCall (un1 tupD) [(eVar 1)]))))))
theorem has_check_loads (T : Tx K mg cm) (G_is_place : FL.Has P w K mg base cm "is_place" 5 ["thing"] [[]] [] 1 F_is_place) (G_is_weight : FL.Has P w K mg base cm "is_weight" 5 ["thing"] [[]] [] 1 F_is_weight) : FL.Has P w K mg base cm "check_loads" 6 ["loads"] [[]] [] 1 F_check_loads :=
  FL.has_of T.d_check_loads sc_check_loads rfl rfl (by decide) (fun _ _ _ _ _ _ us hl => match us, hl with | [_], _ => rfl) (fun f cdv A outer s H E q hr => by have tk : L2.Takes (L2.cxOf (L2.CX P w) P w K mg base N_check_loads "check_loads" (L2.defScope s_check_loads) f cdv A outer s H E) (fun cls d _ H' => E cls d H') := L2.takes_of rfl rfl rfl rfl; have pa : PassesOwn (model P w) (L2.cxOf (L2.CX P w) P w K mg base N_check_loads "check_loads" (L2.defScope s_check_loads) f cdv A outer s H E).A (L2.cxOf (L2.CX P w) P w K mg base N_check_loads "check_loads" (L2.defScope s_check_loads) f cdv A outer s H E).env (L2.cxOf (L2.CX P w) P w K mg base N_check_loads "check_loads" (L2.defScope s_check_loads) f cdv A outer s H E).xe := L2.passes_of rfl; exact (FL.pssx_cons (FL.psx_if (FL.PWX.pt (FL.pwx_or (FL.ptx_not (FL.ptx_tru (FL.px_isi2 .list .tuple (by rfl) T.n_isinstance (by rfl) T.n_list FL.bt_list (by rfl) T.n_tuple FL.bt_tuple (FL.px_var 0)))) (FL.pwx_or1 (FL.ptx_cmp L2.op_gt FL.gt_ok (FL.px_callB L2.call_len FL.len_ok (by rfl) T.n_len FL.bt_len (FL.pax_cons (FL.px_var 0) FL.pax_nil)) FL.px_int (L2.nomark _))))) (FL.pssx_one (FL.psx_raiseH 2 (T.exc_2) rfl rfl tk (hr.mono (by decide)) (by rfl) (FL.pax_cons FL.px_int (FL.pax_cons FL.px_str FL.pax_nil)))) FL.pssx_nil) (FL.pssx_cons (FL.psx_own sc_check_loads.nd (i := 1) rfl (by first | exact Or.inl rfl | exact Or.inr rfl) (FL.pnx_lst FL.pax_nil)) (FL.pssx_cons (FL.psx_for pa rfl (FL.pix_enum (by rfl) T.n_enumerate (FL.px_var 0)) (L2.pg_tup rfl (L2.pgs_cons (L2.pg_name (i := 2) sc_check_loads.nd rfl (by first | exact Or.inl rfl | exact Or.inr rfl)) (L2.pgs_cons (L2.pg_name (i := 3) sc_check_loads.nd rfl (by first | exact Or.inl rfl | exact Or.inr rfl)) L2.pgs_nil))) (FL.tgx_t [2, 3]) (FL.pssx_cons (FL.psx_if (FL.PWX.pt (FL.pwx_or (FL.ptx_not (FL.ptx_tru (FL.px_isi2 .list .tuple (by rfl) T.n_isinstance (by rfl) T.n_list FL.bt_list (by rfl) T.n_tuple FL.bt_tuple (FL.px_var 3)))) (FL.pwx_or1 (FL.ptx_cmp (L2.op_neD (FL.hu64 hr)) FL.ne_ok (FL.px_callB L2.call_len FL.len_ok (by rfl) T.n_len FL.bt_len (FL.pax_cons (FL.px_var 3) FL.pax_nil)) FL.px_int (L2.nomark _))))) (FL.pssx_one (FL.psx_raiseH 2 (T.exc_2) rfl rfl tk (hr.mono (by decide)) (by rfl) (FL.pax_cons (FL.px_var 2) (FL.pax_cons FL.px_str FL.pax_nil)))) FL.pssx_nil) (FL.pssx_cons (FL.psx_if (FL.ptx_not (FL.ptx_tru (FL.px_has G_is_weight (hr.mono (by decide)) tk (by rfl) (FL.pax_cons (FL.px_ix (FL.px_var 3) FL.px_int) FL.pax_nil)))) (FL.pssx_one (FL.psx_raiseH 2 (T.exc_2) rfl rfl tk (hr.mono (by decide)) (by rfl) (FL.pax_cons (FL.px_var 2) (FL.pax_cons FL.px_str FL.pax_nil)))) FL.pssx_nil) (FL.pssx_cons (FL.psx_if (FL.ptx_not (FL.ptx_tru (FL.px_has G_is_place (hr.mono (by decide)) tk (by rfl) (FL.pax_cons (FL.px_ix (FL.px_var 3) FL.px_int) FL.pax_nil)))) (FL.pssx_one (FL.psx_raiseH 2 (T.exc_2) rfl rfl tk (hr.mono (by decide)) (by rfl) (FL.pax_cons (FL.px_var 2) (FL.pax_cons FL.px_str FL.pax_nil)))) FL.pssx_nil) (FL.pssx_one (FL.psx_appE 1 (FL.px_tup (FL.pax_cons (FL.px_ix (FL.px_var 3) FL.px_int) (FL.pax_cons (FL.px_tup (FL.pax_cons (FL.px_ix (FL.px_ix (FL.px_var 3) FL.px_int) FL.px_int) (FL.pax_cons (FL.px_ix (FL.px_ix (FL.px_var 3) FL.px_int) FL.px_int) FL.pax_nil))) FL.pax_nil))))))))) (FL.pssx_frz 1 (FL.pssx_one (FL.psx_ret (FL.px_callTy L2.call_tuple_of FL.tuple_ok (by rfl) T.n_tuple FL.bt_tuple (FL.pax_cons (FL.px_var 1) FL.pax_nil)))))))))
abbrev N__law_try : List Str := ["loads", "found", "wrong"]
theorem sc__law_try : L2.FnScope N__law_try ["loads"] (L2.defScope s__law_try) := ⟨rfl, rfl, rfl, by decide +kernel, rfl, by decide +kernel, by decide +kernel⟩
def F__law_try : List D → M D := callF 3 (sSeq (sTry (sSet 1 (eCall F_check_loads [(eVar 0)])) [2] [] 2 (sSet 1 (eLst [(eXf 2 "index"), (eXf 2 "what")]))) (sRet (eVar 1)))
theorem has__law_try (T : Tx K mg cm) (G_check_loads : FL.Has P w K mg base cm "check_loads" 6 ["loads"] [[]] [] 1 F_check_loads) : FL.Has P w K mg base cm "_law_try" 7 ["loads"] [[]] [] 1 F__law_try :=
  FL.has_of T.d__law_try sc__law_try rfl rfl (by decide) (fun _ _ _ _ _ _ us hl => match us, hl with | [_], _ => rfl) (fun f cdv A outer s H E q hr => by have tk : L2.Takes (L2.cxOf (L2.CX P w) P w K mg base N__law_try "_law_try" (L2.defScope s__law_try) f cdv A outer s H E) (fun cls d _ H' => E cls d H') := L2.takes_of rfl rfl rfl rfl; have pa : PassesOwn (model P w) (L2.cxOf (L2.CX P w) P w K mg base N__law_try "_law_try" (L2.defScope s__law_try) f cdv A outer s H E).A (L2.cxOf (L2.CX P w) P w K mg base N__law_try "_law_try" (L2.defScope s__law_try) f cdv A outer s H E).env (L2.cxOf (L2.CX P w) P w K mg base N__law_try "_law_try" (L2.defScope s__law_try) f cdv A outer s H E).xe := L2.passes_of rfl; exact (FL.pssx_cons (FL.psx_try (i := 2) [2] [] rfl rfl rfl sc__law_try.nd rfl rfl ⟨by rfl, by decide, .inl T.x_2⟩ tk (fun k hk => by rw [List.mem_singleton.mp hk]; exact T.em_2_2) (fun _ z => nomatch z) (fun W pn xe tk pa => (FL.pssx_one (FL.psx_set sc__law_try.nd (i := 1) rfl (by first | exact Or.inl rfl | exact Or.inr rfl) (FL.px_has G_check_loads (hr.mono (by decide)) tk (by rfl) (FL.pax_cons (FL.px_var 0) FL.pax_nil))))) (fun a oe k dd pn hk hz hf => (FL.pssx_one (FL.psx_set sc__law_try.nd (i := 1) rfl (by first | exact Or.inl rfl | exact Or.inr rfl) (FL.px_lst (FL.pax_cons (FL.px_xf (i := 2) (by rw [List.mem_singleton.mp hk]; exact T.xf_2) (by rw [List.mem_singleton.mp hk]; exact T.no_2_index) hz hf) (FL.pax_cons (FL.px_xf (i := 2) (by rw [List.mem_singleton.mp hk]; exact T.xf_2) (by rw [List.mem_singleton.mp hk]; exact T.no_2_what) hz hf) FL.pax_nil))))))) (FL.pssx_one (FL.psx_ret (FL.px_var 1)))))
abbrev N__law_gcd : List Str := ["one", "other"]
theorem sc__law_gcd : L2.FnScope N__law_gcd ["one", "other"] (L2.defScope s__law_gcd) := ⟨rfl, rfl, rfl, by decide +kernel, rfl, by decide +kernel, by decide +kernel⟩
def B__law_gcd_0 : SF := (sPar 0 1 (eVar 1) (eBin modD (eCall (un1 intD) [(eVar 0)]) (eVar 1)))
theorem B__law_gcd_0_w {ρ : FL.Env} {w : Wd} : B__law_gcd_0 ρ w = (sPar 0 1 (eVar 1) (eBin modD (eCall (un1 intD) [(eVar 0)]) (eVar 1))) ρ w := rfl
def F__law_gcd : List D → M D := callF 2 (sSeq (sPar 0 1 (eCall (un1 absD) [(eVar 0)]) (eCall (un1 absD) [(eVar 1)])) (sSeq (sWhile fuel__law_gcd (tTru (eVar 1)) B__law_gcd_0) (sRet (eVar 0))))
theorem has__law_gcd (T : Tx K mg cm)  : FL.Has P w K mg base cm "_law_gcd" 2 ["one", "other"] [[]] [] 2 F__law_gcd :=
  FL.has_of T.d__law_gcd sc__law_gcd rfl rfl (by decide) (fun _ _ _ _ _ _ us hl => match us, hl with | [_, _], _ => rfl) (fun f cdv A outer s H E q hr => by have tk : L2.Takes (L2.cxOf (L2.CX P w) P w K mg base N__law_gcd "_law_gcd" (L2.defScope s__law_gcd) f cdv A outer s H E) (fun cls d _ H' => E cls d H') := L2.takes_of rfl rfl rfl rfl; have pa : PassesOwn (model P w) (L2.cxOf (L2.CX P w) P w K mg base N__law_gcd "_law_gcd" (L2.defScope s__law_gcd) f cdv A outer s H E).A (L2.cxOf (L2.CX P w) P w K mg base N__law_gcd "_law_gcd" (L2.defScope s__law_gcd) f cdv A outer s H E).env (L2.cxOf (L2.CX P w) P w K mg base N__law_gcd "_law_gcd" (L2.defScope s__law_gcd) f cdv A outer s H E).xe := L2.passes_of rfl; exact (FL.pssx_cons (FL.psx_par rfl sc__law_gcd.nd (i := 0) (j := 1) rfl rfl (by decide) rfl rfl (FL.pax_cons (FL.px_callB L2.call_abs FL.abs_ok (by rfl) T.n_abs FL.bt_abs (FL.pax_cons (FL.px_var 0) FL.pax_nil)) (FL.pax_cons (FL.px_callB L2.call_abs FL.abs_ok (by rfl) T.n_abs FL.bt_abs (FL.pax_cons (FL.px_var 1) FL.pax_nil)) FL.pax_nil)) (by rfl)) (FL.pssx_cons (FL.psx_while fuel__law_gcd pa (FL.ptx_tru (FL.px_var 1)) (FL.pssx_one (FL.psx_par rfl sc__law_gcd.nd (i := 0) (j := 1) rfl rfl (by decide) rfl rfl (FL.pax_cons (FL.px_var 1) (FL.pax_cons (FL.px_bin L2.op_modN FL.mod_ok (FL.px_callTy L2.call_int1 FL.int_ok (by rfl) T.n_int FL.bt_int (FL.pax_cons (FL.px_var 0) FL.pax_nil)) (FL.px_var 1)) FL.pax_nil)) (by rfl)))) (FL.pssx_one (FL.psx_ret (FL.px_var 0))))))
abbrev N__law_ratio : List Str := ["top", "bottom", "part"]
theorem sc__law_ratio : L2.FnScope N__law_ratio ["top", "bottom"] (L2.defScope s__law_ratio) := ⟨rfl, rfl, rfl, by decide +kernel, rfl, by decide +kernel, by decide +kernel⟩
def F__law_ratio : List D → M D := callF 3 (sSeq (sSet 2 (eCall F__law_gcd [(eVar 0), (eVar 1)])) (sSeq (sIf (tVal (eBin ltD (eVar 1) (eC (.int 0)))) (sSet 2 (eUn negD (eVar 2))) sNext) (sRet (eTup [(eBin fdivD (eVar 0) (eVar 2)), (eBin fdivD (eVar 1) (eVar 2))]))))
theorem has__law_ratio (T : Tx K mg cm) (G__law_gcd : FL.Has P w K mg base cm "_law_gcd" 2 ["one", "other"] [[]] [] 2 F__law_gcd) : FL.Has P w K mg base cm "_law_ratio" 3 ["top", "bottom"] [[]] [] 2 F__law_ratio :=
  FL.has_of T.d__law_ratio sc__law_ratio rfl rfl (by decide) (fun _ _ _ _ _ _ us hl => match us, hl with | [_, _], _ => rfl) (fun f cdv A outer s H E q hr => by have tk : L2.Takes (L2.cxOf (L2.CX P w) P w K mg base N__law_ratio "_law_ratio" (L2.defScope s__law_ratio) f cdv A outer s H E) (fun cls d _ H' => E cls d H') := L2.takes_of rfl rfl rfl rfl; have pa : PassesOwn (model P w) (L2.cxOf (L2.CX P w) P w K mg base N__law_ratio "_law_ratio" (L2.defScope s__law_ratio) f cdv A outer s H E).A (L2.cxOf (L2.CX P w) P w K mg base N__law_ratio "_law_ratio" (L2.defScope s__law_ratio) f cdv A outer s H E).env (L2.cxOf (L2.CX P w) P w K mg base N__law_ratio "_law_ratio" (L2.defScope s__law_ratio) f cdv A outer s H E).xe := L2.passes_of rfl; exact (FL.pssx_cons (FL.psx_set sc__law_ratio.nd (i := 2) rfl (by first | exact Or.inl rfl | exact Or.inr rfl) (FL.px_has G__law_gcd (hr.mono (by decide)) tk (by rfl) (FL.pax_cons (FL.px_var 0) (FL.pax_cons (FL.px_var 1) FL.pax_nil)))) (FL.pssx_cons (FL.psx_if (FL.ptx_cmp L2.op_lt FL.lt_ok (FL.px_var 1) FL.px_int (L2.nomark _)) (FL.pssx_one (FL.psx_set sc__law_ratio.nd (i := 2) rfl (by first | exact Or.inl rfl | exact Or.inr rfl) (FL.px_un L2.un_neg FL.neg_ok (FL.px_var 2)))) FL.pssx_nil) (FL.pssx_one (FL.psx_ret (FL.px_tup (FL.pax_cons (FL.px_bin FL.op_fdivZ FL.fdiv_ok (FL.px_var 0) (FL.px_var 2)) (FL.pax_cons (FL.px_bin FL.op_fdivZ FL.fdiv_ok (FL.px_var 1) (FL.px_var 2)) FL.pax_nil))))))))
abbrev N__law_plus : List Str := ["one", "other"]
theorem sc__law_plus : L2.FnScope N__law_plus ["one", "other"] (L2.defScope s__law_plus) := ⟨rfl, rfl, rfl, by decide +kernel, rfl, by decide +kernel, by decide +kernel⟩
def F__law_plus : List D → M D := callF 2 (sRet (eCall F__law_ratio [(eBin addD (eBin mulD (eBin ixD (eVar 0) (eC (.int 0))) (eBin ixD (eVar 1) (eC (.int 1)))) (eBin mulD (eBin ixD (eVar 1) (eC (.int 0))) (eBin ixD (eVar 0) (eC (.int 1))))), (eBin mulD (eBin ixD (eVar 0) (eC (.int 1))) (eBin ixD (eVar 1) (eC (.int 1))))]))
theorem has__law_plus (T : Tx K mg cm) (G__law_ratio : FL.Has P w K mg base cm "_law_ratio" 3 ["top", "bottom"] [[]] [] 2 F__law_ratio) : FL.Has P w K mg base cm "_law_plus" 4 ["one", "other"] [[]] [] 2 F__law_plus :=
  FL.has_of T.d__law_plus sc__law_plus rfl rfl (by decide) (fun _ _ _ _ _ _ us hl => match us, hl with | [_, _], _ => rfl) (fun f cdv A outer s H E q hr => by have tk : L2.Takes (L2.cxOf (L2.CX P w) P w K mg base N__law_plus "_law_plus" (L2.defScope s__law_plus) f cdv A outer s H E) (fun cls d _ H' => E cls d H') := L2.takes_of rfl rfl rfl rfl; have pa : PassesOwn (model P w) (L2.cxOf (L2.CX P w) P w K mg base N__law_plus "_law_plus" (L2.defScope s__law_plus) f cdv A outer s H E).A (L2.cxOf (L2.CX P w) P w K mg base N__law_plus "_law_plus" (L2.defScope s__law_plus) f cdv A outer s H E).env (L2.cxOf (L2.CX P w) P w K mg base N__law_plus "_law_plus" (L2.defScope s__law_plus) f cdv A outer s H E).xe := L2.passes_of rfl; exact (FL.pssx_one (FL.psx_ret (FL.px_has G__law_ratio (hr.mono (by decide)) tk (by rfl) (FL.pax_cons (FL.px_bin FL.op_addA FL.add_ok (FL.px_bin L2.op_mulW FL.mul_ok (FL.px_ix (FL.px_var 0) FL.px_int) (FL.px_ix (FL.px_var 1) FL.px_int)) (FL.px_bin L2.op_mulW FL.mul_ok (FL.px_ix (FL.px_var 1) FL.px_int) (FL.px_ix (FL.px_var 0) FL.px_int))) (FL.pax_cons (FL.px_bin L2.op_mulW FL.mul_ok (FL.px_ix (FL.px_var 0) FL.px_int) (FL.px_ix (FL.px_var 1) FL.px_int)) FL.pax_nil))))))
abbrev N__law_sum : List Str := ["rows", "found", "row"]
theorem sc__law_sum : L2.FnScope N__law_sum ["rows"] (L2.defScope s__law_sum) := ⟨rfl, rfl, rfl, by decide +kernel, rfl, by decide +kernel, by decide +kernel⟩
def B__law_sum_0 : SF := (sSet 1 (eCall F__law_plus [(eVar 1), (eVar 2)]))
theorem B__law_sum_0_w {ρ : FL.Env} {w : Wd} : B__law_sum_0 ρ w = (sSet 1 (eCall F__law_plus [(eVar 1), (eVar 2)])) ρ w := rfl
def F__law_sum : List D → M D := callF 3 (sSeq (sSet 1 (eTup [(eC (.int 0)), (eC (.int 1))])) (sSeq (sFor (iSeq (eVar 0)) (gN 2) B__law_sum_0) (sRet (eVar 1))))
theorem has__law_sum (T : Tx K mg cm) (G__law_plus : FL.Has P w K mg base cm "_law_plus" 4 ["one", "other"] [[]] [] 2 F__law_plus) : FL.Has P w K mg base cm "_law_sum" 5 ["rows"] [[]] [] 1 F__law_sum :=
  FL.has_of T.d__law_sum sc__law_sum rfl rfl (by decide) (fun _ _ _ _ _ _ us hl => match us, hl with | [_], _ => rfl) (fun f cdv A outer s H E q hr => by have tk : L2.Takes (L2.cxOf (L2.CX P w) P w K mg base N__law_sum "_law_sum" (L2.defScope s__law_sum) f cdv A outer s H E) (fun cls d _ H' => E cls d H') := L2.takes_of rfl rfl rfl rfl; have pa : PassesOwn (model P w) (L2.cxOf (L2.CX P w) P w K mg base N__law_sum "_law_sum" (L2.defScope s__law_sum) f cdv A outer s H E).A (L2.cxOf (L2.CX P w) P w K mg base N__law_sum "_law_sum" (L2.defScope s__law_sum) f cdv A outer s H E).env (L2.cxOf (L2.CX P w) P w K mg base N__law_sum "_law_sum" (L2.defScope s__law_sum) f cdv A outer s H E).xe := L2.passes_of rfl; exact (FL.pssx_cons (FL.psx_set sc__law_sum.nd (i := 1) rfl (by first | exact Or.inl rfl | exact Or.inr rfl) (FL.px_tup (FL.pax_cons FL.px_int (FL.pax_cons FL.px_int FL.pax_nil)))) (FL.pssx_cons (FL.psx_for pa rfl (FL.pix_any (FL.px_var 0)) (L2.pg_name (i := 2) sc__law_sum.nd rfl (by first | exact Or.inl rfl | exact Or.inr rfl)) (FL.tgx_n 2) (FL.pssx_one (FL.psx_set sc__law_sum.nd (i := 1) rfl (by first | exact Or.inl rfl | exact Or.inr rfl) (FL.px_has G__law_plus (hr.mono (by decide)) tk (by rfl) (FL.pax_cons (FL.px_var 1) (FL.pax_cons (FL.px_var 2) FL.pax_nil)))))) (FL.pssx_one (FL.psx_ret (FL.px_var 1))))))
abbrev N__law_times : List Str := ["one", "other"]
theorem sc__law_times : L2.FnScope N__law_times ["one", "other"] (L2.defScope s__law_times) := ⟨rfl, rfl, rfl, by decide +kernel, rfl, by decide +kernel, by decide +kernel⟩
def F__law_times : List D → M D := callF 2 (sRet (eCall F__law_ratio [(eBin mulD (eBin ixD (eVar 0) (eC (.int 0))) (eBin ixD (eVar 1) (eC (.int 0)))), (eBin mulD (eBin ixD (eVar 0) (eC (.int 1))) (eBin ixD (eVar 1) (eC (.int 1))))]))
theorem has__law_times (T : Tx K mg cm) (G__law_ratio : FL.Has P w K mg base cm "_law_ratio" 3 ["top", "bottom"] [[]] [] 2 F__law_ratio) : FL.Has P w K mg base cm "_law_times" 4 ["one", "other"] [[]] [] 2 F__law_times :=
  FL.has_of T.d__law_times sc__law_times rfl rfl (by decide) (fun _ _ _ _ _ _ us hl => match us, hl with | [_, _], _ => rfl) (fun f cdv A outer s H E q hr => by have tk : L2.Takes (L2.cxOf (L2.CX P w) P w K mg base N__law_times "_law_times" (L2.defScope s__law_times) f cdv A outer s H E) (fun cls d _ H' => E cls d H') := L2.takes_of rfl rfl rfl rfl; have pa : PassesOwn (model P w) (L2.cxOf (L2.CX P w) P w K mg base N__law_times "_law_times" (L2.defScope s__law_times) f cdv A outer s H E).A (L2.cxOf (L2.CX P w) P w K mg base N__law_times "_law_times" (L2.defScope s__law_times) f cdv A outer s H E).env (L2.cxOf (L2.CX P w) P w K mg base N__law_times "_law_times" (L2.defScope s__law_times) f cdv A outer s H E).xe := L2.passes_of rfl; exact (FL.pssx_one (FL.psx_ret (FL.px_has G__law_ratio (hr.mono (by decide)) tk (by rfl) (FL.pax_cons (FL.px_bin L2.op_mulW FL.mul_ok (FL.px_ix (FL.px_var 0) FL.px_int) (FL.px_ix (FL.px_var 1) FL.px_int)) (FL.pax_cons (FL.px_bin L2.op_mulW FL.mul_ok (FL.px_ix (FL.px_var 0) FL.px_int) (FL.px_ix (FL.px_var 1) FL.px_int)) FL.pax_nil))))))
abbrev N__law_centre : List Str := ["loads", "total", "across", "along", "row"]
theorem sc__law_centre : L2.FnScope N__law_centre ["loads"] (L2.defScope s__law_centre) := ⟨rfl, rfl, rfl, by decide +kernel, rfl, by decide +kernel, by decide +kernel⟩
def F__law_centre : List D → M D := callF 5 (sSeq (sSet 1 (eCall F__law_sum [(eNew (nLc (iSeq (eVar 0)) [4] (gN 4) tYes (eBin ixD (eVar 4) (eC (.int 0)))))])) (sSeq (sSet 2 (eCall F__law_sum [(eNew (nLc (iSeq (eVar 0)) [4] (gN 4) tYes (eCall F__law_times [(eBin ixD (eVar 4) (eC (.int 0))), (eBin ixD (eBin ixD (eVar 4) (eC (.int 1))) (eC (.int 0)))])))])) (sSeq (sSet 3 (eCall F__law_sum [(eNew (nLc (iSeq (eVar 0)) [4] (gN 4) tYes (eCall F__law_times [(eBin ixD (eVar 4) (eC (.int 0))), (eBin ixD (eBin ixD (eVar 4) (eC (.int 1))) (eC (.int 1)))])))])) (sRet (eTup [(eVar 1), (eVar 2), (eVar 3)])))))
theorem has__law_centre (T : Tx K mg cm) (G__law_sum : FL.Has P w K mg base cm "_law_sum" 5 ["rows"] [[]] [] 1 F__law_sum) (G__law_times : FL.Has P w K mg base cm "_law_times" 4 ["one", "other"] [[]] [] 2 F__law_times) : FL.Has P w K mg base cm "_law_centre" 6 ["loads"] [[]] [] 1 F__law_centre :=
  FL.has_of T.d__law_centre sc__law_centre rfl rfl (by decide) (fun _ _ _ _ _ _ us hl => match us, hl with | [_], _ => rfl) (fun f cdv A outer s H E q hr => by have tk : L2.Takes (L2.cxOf (L2.CX P w) P w K mg base N__law_centre "_law_centre" (L2.defScope s__law_centre) f cdv A outer s H E) (fun cls d _ H' => E cls d H') := L2.takes_of rfl rfl rfl rfl; have pa : PassesOwn (model P w) (L2.cxOf (L2.CX P w) P w K mg base N__law_centre "_law_centre" (L2.defScope s__law_centre) f cdv A outer s H E).A (L2.cxOf (L2.CX P w) P w K mg base N__law_centre "_law_centre" (L2.defScope s__law_centre) f cdv A outer s H E).env (L2.cxOf (L2.CX P w) P w K mg base N__law_centre "_law_centre" (L2.defScope s__law_centre) f cdv A outer s H E).xe := L2.passes_of rfl; exact (FL.pssx_cons (FL.psx_set sc__law_centre.nd (i := 1) rfl (by first | exact Or.inl rfl | exact Or.inr rfl) (FL.px_has G__law_sum (hr.mono (by decide)) tk (by rfl) (FL.pax_cons (FL.px_new (FL.pnx_lcE (own := [("row", 4)]) rfl sc__law_centre.nd (FL.pix_any (FL.px_var 0)) (L2.blkOk_by (N := N__law_centre) (sc := L2.defScope s__law_centre) (by decide +kernel)) rfl (fun _ _ _ _ _ => (L2.pg_name (i := 4) sc__law_centre.nd rfl (by first | exact Or.inl rfl | exact Or.inr rfl))) (FL.tgx_n 4) (fun _ _ _ _ _ => FL.ptsx0) (fun _ _ _ _ _ => (FL.px_ix (FL.px_var 4) FL.px_int)))) FL.pax_nil))) (FL.pssx_cons (FL.psx_set sc__law_centre.nd (i := 2) rfl (by first | exact Or.inl rfl | exact Or.inr rfl) (FL.px_has G__law_sum (hr.mono (by decide)) tk (by rfl) (FL.pax_cons (FL.px_new (FL.pnx_lcE (own := [("row", 4)]) rfl sc__law_centre.nd (FL.pix_any (FL.px_var 0)) (L2.blkOk_by (N := N__law_centre) (sc := L2.defScope s__law_centre) (by decide +kernel)) rfl (fun _ _ _ _ _ => (L2.pg_name (i := 4) sc__law_centre.nd rfl (by first | exact Or.inl rfl | exact Or.inr rfl))) (FL.tgx_n 4) (fun _ _ _ _ _ => FL.ptsx0) (fun _ _ _ _ _ => (FL.px_has G__law_times (hr.mono (by decide)) L2.takes0 (by rfl) (FL.pax_cons (FL.px_ix (FL.px_var 4) FL.px_int) (FL.pax_cons (FL.px_ix (FL.px_ix (FL.px_var 4) FL.px_int) FL.px_int) FL.pax_nil)))))) FL.pax_nil))) (FL.pssx_cons (FL.psx_set sc__law_centre.nd (i := 3) rfl (by first | exact Or.inl rfl | exact Or.inr rfl) (FL.px_has G__law_sum (hr.mono (by decide)) tk (by rfl) (FL.pax_cons (FL.px_new (FL.pnx_lcE (own := [("row", 4)]) rfl sc__law_centre.nd (FL.pix_any (FL.px_var 0)) (L2.blkOk_by (N := N__law_centre) (sc := L2.defScope s__law_centre) (by decide +kernel)) rfl (fun _ _ _ _ _ => (L2.pg_name (i := 4) sc__law_centre.nd rfl (by first | exact Or.inl rfl | exact Or.inr rfl))) (FL.tgx_n 4) (fun _ _ _ _ _ => FL.ptsx0) (fun _ _ _ _ _ => (FL.px_has G__law_times (hr.mono (by decide)) L2.takes0 (by rfl) (FL.pax_cons (FL.px_ix (FL.px_var 4) FL.px_int) (FL.pax_cons (FL.px_ix (FL.px_ix (FL.px_var 4) FL.px_int) FL.px_int) FL.pax_nil)))))) FL.pax_nil))) (FL.pssx_one (FL.psx_ret (FL.px_tup (FL.pax_cons (FL.px_var 1) (FL.pax_cons (FL.px_var 2) (FL.pax_cons (FL.px_var 3) FL.pax_nil))))))))))
abbrev N__lowest : List Str := ["top", "bottom", "part"]
theorem sc__lowest : L2.FnScope N__lowest ["top", "bottom"] (L2.defScope s__lowest) := ⟨rfl, rfl, rfl, by decide +kernel, rfl, by decide +kernel, by decide +kernel⟩
def F__lowest : List D → M D := callF 3 (sSeq (sIf (tVal (eBin ltD (eVar 1) (eC (.int 0)))) (sSeq (sSet 0 (eUn negD (eVar 0))) (sSet 1 (eUn negD (eVar 1)))) sNext) (sSeq (sSet 2 (eCall (bin2 gcdD) [(eVar 0), (eVar 1)])) (sRet (eTup [(eBin fdivD (eVar 0) (eVar 2)), (eBin fdivD (eVar 1) (eVar 2))]))))
theorem has__lowest (T : Tx K mg cm)  : FL.Has P w K mg base cm "_lowest" 2 ["top", "bottom"] [[]] [] 2 F__lowest :=
  FL.has_of T.d__lowest sc__lowest rfl rfl (by decide) (fun _ _ _ _ _ _ us hl => match us, hl with | [_, _], _ => rfl) (fun f cdv A outer s H E q hr => by have tk : L2.Takes (L2.cxOf (L2.CX P w) P w K mg base N__lowest "_lowest" (L2.defScope s__lowest) f cdv A outer s H E) (fun cls d _ H' => E cls d H') := L2.takes_of rfl rfl rfl rfl; have pa : PassesOwn (model P w) (L2.cxOf (L2.CX P w) P w K mg base N__lowest "_lowest" (L2.defScope s__lowest) f cdv A outer s H E).A (L2.cxOf (L2.CX P w) P w K mg base N__lowest "_lowest" (L2.defScope s__lowest) f cdv A outer s H E).env (L2.cxOf (L2.CX P w) P w K mg base N__lowest "_lowest" (L2.defScope s__lowest) f cdv A outer s H E).xe := L2.passes_of rfl; exact (FL.pssx_cons (FL.psx_if (FL.ptx_cmp L2.op_lt FL.lt_ok (FL.px_var 1) FL.px_int (L2.nomark _)) (FL.pssx_cons (FL.psx_set sc__lowest.nd (i := 0) rfl (by first | exact Or.inl rfl | exact Or.inr rfl) (FL.px_un L2.un_neg FL.neg_ok (FL.px_var 0))) (FL.pssx_one (FL.psx_set sc__lowest.nd (i := 1) rfl (by first | exact Or.inl rfl | exact Or.inr rfl) (FL.px_un L2.un_neg FL.neg_ok (FL.px_var 1))))) FL.pssx_nil) (FL.pssx_cons (FL.psx_set sc__lowest.nd (i := 2) rfl (by first | exact Or.inl rfl | exact Or.inr rfl) (FL.px_callF L2.cr_gcd FL.gcd_ok (by rfl) T.g_gcd (FL.pax_cons (FL.px_var 0) (FL.pax_cons (FL.px_var 1) FL.pax_nil)))) (FL.pssx_one (FL.psx_ret (FL.px_tup (FL.pax_cons (FL.px_bin FL.op_fdivZ FL.fdiv_ok (FL.px_var 0) (FL.px_var 2)) (FL.pax_cons (FL.px_bin FL.op_fdivZ FL.fdiv_ok (FL.px_var 1) (FL.px_var 2)) FL.pax_nil))))))))
abbrev N_plus : List Str := ["one", "two"]
theorem sc_plus : L2.FnScope N_plus ["one", "two"] (L2.defScope s_plus) := ⟨rfl, rfl, rfl, by decide +kernel, rfl, by decide +kernel, by decide +kernel⟩
def F_plus : List D → M D := callF 2 (sRet (eCall F__lowest [(eBin addD (eBin mulD (eBin ixD (eVar 0) (eC (.int 0))) (eBin ixD (eVar 1) (eC (.int 1)))) (eBin mulD (eBin ixD (eVar 1) (eC (.int 0))) (eBin ixD (eVar 0) (eC (.int 1))))), (eBin mulD (eBin ixD (eVar 0) (eC (.int 1))) (eBin ixD (eVar 1) (eC (.int 1))))]))
theorem has_plus (T : Tx K mg cm) (G__lowest : FL.Has P w K mg base cm "_lowest" 2 ["top", "bottom"] [[]] [] 2 F__lowest) : FL.Has P w K mg base cm "plus" 3 ["one", "two"] [[]] [] 2 F_plus :=
  FL.has_of T.d_plus sc_plus rfl rfl (by decide) (fun _ _ _ _ _ _ us hl => match us, hl with | [_, _], _ => rfl) (fun f cdv A outer s H E q hr => by have tk : L2.Takes (L2.cxOf (L2.CX P w) P w K mg base N_plus "plus" (L2.defScope s_plus) f cdv A outer s H E) (fun cls d _ H' => E cls d H') := L2.takes_of rfl rfl rfl rfl; have pa : PassesOwn (model P w) (L2.cxOf (L2.CX P w) P w K mg base N_plus "plus" (L2.defScope s_plus) f cdv A outer s H E).A (L2.cxOf (L2.CX P w) P w K mg base N_plus "plus" (L2.defScope s_plus) f cdv A outer s H E).env (L2.cxOf (L2.CX P w) P w K mg base N_plus "plus" (L2.defScope s_plus) f cdv A outer s H E).xe := L2.passes_of rfl; exact (FL.pssx_one (FL.psx_ret (FL.px_has G__lowest (hr.mono (by decide)) tk (by rfl) (FL.pax_cons (FL.px_bin FL.op_addA FL.add_ok (FL.px_bin L2.op_mulW FL.mul_ok (FL.px_ix (FL.px_var 0) FL.px_int) (FL.px_ix (FL.px_var 1) FL.px_int)) (FL.px_bin L2.op_mulW FL.mul_ok (FL.px_ix (FL.px_var 1) FL.px_int) (FL.px_ix (FL.px_var 0) FL.px_int))) (FL.pax_cons (FL.px_bin L2.op_mulW FL.mul_ok (FL.px_ix (FL.px_var 0) FL.px_int) (FL.px_ix (FL.px_var 1) FL.px_int)) FL.pax_nil))))))
abbrev N_sum_of : List Str := ["ratios", "whole", "one"]
theorem sc_sum_of : L2.FnScope N_sum_of ["ratios"] (L2.defScope s_sum_of) := ⟨rfl, rfl, rfl, by decide +kernel, rfl, by decide +kernel, by decide +kernel⟩
def B_sum_of_0 : SF := (sSet 1 (eCall F_plus [(eVar 1), (eVar 2)]))
theorem B_sum_of_0_w {ρ : FL.Env} {w : Wd} : B_sum_of_0 ρ w = (sSet 1 (eCall F_plus [(eVar 1), (eVar 2)])) ρ w := rfl
def F_sum_of : List D → M D := callF 3 (sSeq (sSet 1 (eC (.tup [(.int 0), (.int 1)]))) (sSeq (sFor (iSeq (eVar 0)) (gN 2) B_sum_of_0) (sRet (eVar 1))))
theorem has_sum_of (T : Tx K mg cm) (G_plus : FL.Has P w K mg base cm "plus" 3 ["one", "two"] [[]] [] 2 F_plus) : FL.Has P w K mg base cm "sum_of" 4 ["ratios"] [[]] [] 1 F_sum_of :=
  FL.has_of T.d_sum_of sc_sum_of rfl rfl (by decide) (fun _ _ _ _ _ _ us hl => match us, hl with | [_], _ => rfl) (fun f cdv A outer s H E q hr => by have tk : L2.Takes (L2.cxOf (L2.CX P w) P w K mg base N_sum_of "sum_of" (L2.defScope s_sum_of) f cdv A outer s H E) (fun cls d _ H' => E cls d H') := L2.takes_of rfl rfl rfl rfl; have pa : PassesOwn (model P w) (L2.cxOf (L2.CX P w) P w K mg base N_sum_of "sum_of" (L2.defScope s_sum_of) f cdv A outer s H E).A (L2.cxOf (L2.CX P w) P w K mg base N_sum_of "sum_of" (L2.defScope s_sum_of) f cdv A outer s H E).env (L2.cxOf (L2.CX P w) P w K mg base N_sum_of "sum_of" (L2.defScope s_sum_of) f cdv A outer s H E).xe := L2.passes_of rfl; exact (FL.pssx_cons (FL.psx_set sc_sum_of.nd (i := 1) rfl (by first | exact Or.inl rfl | exact Or.inr rfl) (FL.px_gtupE (by rfl) T.c_ZERO)) (FL.pssx_cons (FL.psx_for pa rfl (FL.pix_any (FL.px_var 0)) (L2.pg_name (i := 2) sc_sum_of.nd rfl (by first | exact Or.inl rfl | exact Or.inr rfl)) (FL.tgx_n 2) (FL.pssx_one (FL.psx_set sc_sum_of.nd (i := 1) rfl (by first | exact Or.inl rfl | exact Or.inr rfl) (FL.px_has G_plus (hr.mono (by decide)) tk (by rfl) (FL.pax_cons (FL.px_var 1) (FL.pax_cons (FL.px_var 2) FL.pax_nil)))))) (FL.pssx_one (FL.psx_ret (FL.px_var 1))))))
abbrev N_total_of : List Str := ["loads", "load"]
theorem sc_total_of : L2.FnScope N_total_of ["loads"] (L2.defScope s_total_of) := ⟨rfl, rfl, rfl, by decide +kernel, rfl, by decide +kernel, by decide +kernel⟩
def F_total_of : List D → M D := callF 2 (sRet (eCall F_sum_of [(eNew (nLc (iSeq (eVar 0)) [1] (gN 1) tYes (eBin ixD (eVar 1) (eC (.int 0)))))]))
theorem has_total_of (T : Tx K mg cm) (G_sum_of : FL.Has P w K mg base cm "sum_of" 4 ["ratios"] [[]] [] 1 F_sum_of) : FL.Has P w K mg base cm "total_of" 5 ["loads"] [[]] [] 1 F_total_of :=
  FL.has_of T.d_total_of sc_total_of rfl rfl (by decide) (fun _ _ _ _ _ _ us hl => match us, hl with | [_], _ => rfl) (fun f cdv A outer s H E q hr => by have tk : L2.Takes (L2.cxOf (L2.CX P w) P w K mg base N_total_of "total_of" (L2.defScope s_total_of) f cdv A outer s H E) (fun cls d _ H' => E cls d H') := L2.takes_of rfl rfl rfl rfl; have pa : PassesOwn (model P w) (L2.cxOf (L2.CX P w) P w K mg base N_total_of "total_of" (L2.defScope s_total_of) f cdv A outer s H E).A (L2.cxOf (L2.CX P w) P w K mg base N_total_of "total_of" (L2.defScope s_total_of) f cdv A outer s H E).env (L2.cxOf (L2.CX P w) P w K mg base N_total_of "total_of" (L2.defScope s_total_of) f cdv A outer s H E).xe := L2.passes_of rfl; exact (FL.pssx_one (FL.psx_ret (FL.px_has G_sum_of (hr.mono (by decide)) tk (by rfl) (FL.pax_cons (FL.px_new (FL.pnx_lcE (own := [("load", 1)]) rfl sc_total_of.nd (FL.pix_any (FL.px_var 0)) (L2.blkOk_by (N := N_total_of) (sc := L2.defScope s_total_of) (by decide +kernel)) rfl (fun _ _ _ _ _ => (L2.pg_name (i := 1) sc_total_of.nd rfl (by first | exact Or.inl rfl | exact Or.inr rfl))) (FL.tgx_n 1) (fun _ _ _ _ _ => FL.ptsx0) (fun _ _ _ _ _ => (FL.px_ix (FL.px_var 1) FL.px_int)))) FL.pax_nil)))))
abbrev N_times : List Str := ["one", "two"]
theorem sc_times : L2.FnScope N_times ["one", "two"] (L2.defScope s_times) := ⟨rfl, rfl, rfl, by decide +kernel, rfl, by decide +kernel, by decide +kernel⟩
def F_times : List D → M D := callF 2 (sRet (eCall F__lowest [(eBin mulD (eBin ixD (eVar 0) (eC (.int 0))) (eBin ixD (eVar 1) (eC (.int 0)))), (eBin mulD (eBin ixD (eVar 0) (eC (.int 1))) (eBin ixD (eVar 1) (eC (.int 1))))]))
theorem has_times (T : Tx K mg cm) (G__lowest : FL.Has P w K mg base cm "_lowest" 2 ["top", "bottom"] [[]] [] 2 F__lowest) : FL.Has P w K mg base cm "times" 3 ["one", "two"] [[]] [] 2 F_times :=
  FL.has_of T.d_times sc_times rfl rfl (by decide) (fun _ _ _ _ _ _ us hl => match us, hl with | [_, _], _ => rfl) (fun f cdv A outer s H E q hr => by have tk : L2.Takes (L2.cxOf (L2.CX P w) P w K mg base N_times "times" (L2.defScope s_times) f cdv A outer s H E) (fun cls d _ H' => E cls d H') := L2.takes_of rfl rfl rfl rfl; have pa : PassesOwn (model P w) (L2.cxOf (L2.CX P w) P w K mg base N_times "times" (L2.defScope s_times) f cdv A outer s H E).A (L2.cxOf (L2.CX P w) P w K mg base N_times "times" (L2.defScope s_times) f cdv A outer s H E).env (L2.cxOf (L2.CX P w) P w K mg base N_times "times" (L2.defScope s_times) f cdv A outer s H E).xe := L2.passes_of rfl; exact (FL.pssx_one (FL.psx_ret (FL.px_has G__lowest (hr.mono (by decide)) tk (by rfl) (FL.pax_cons (FL.px_bin L2.op_mulW FL.mul_ok (FL.px_ix (FL.px_var 0) FL.px_int) (FL.px_ix (FL.px_var 1) FL.px_int)) (FL.pax_cons (FL.px_bin L2.op_mulW FL.mul_ok (FL.px_ix (FL.px_var 0) FL.px_int) (FL.px_ix (FL.px_var 1) FL.px_int)) FL.pax_nil))))))
abbrev N_moment_of : List Str := ["loads", "across", "along", "load"]
theorem sc_moment_of : L2.FnScope N_moment_of ["loads"] (L2.defScope s_moment_of) := ⟨rfl, rfl, rfl, by decide +kernel, rfl, by decide +kernel, by decide +kernel⟩
def F_moment_of : List D → M D := callF 4 (sSeq (sSet 1 (eCall F_sum_of [(eNew (nLc (iSeq (eVar 0)) [3] (gN 3) tYes (eCall F_times [(eBin ixD (eVar 3) (eC (.int 0))), (eBin ixD (eBin ixD (eVar 3) (eC (.int 1))) (eC (.int 0)))])))])) (sSeq (sSet 2 (eCall F_sum_of [(eNew (nLc (iSeq (eVar 0)) [3] (gN 3) tYes (eCall F_times [(eBin ixD (eVar 3) (eC (.int 0))), (eBin ixD (eBin ixD (eVar 3) (eC (.int 1))) (eC (.int 1)))])))])) (sRet (eTup [(eVar 1), (eVar 2)]))))
theorem has_moment_of (T : Tx K mg cm) (G_sum_of : FL.Has P w K mg base cm "sum_of" 4 ["ratios"] [[]] [] 1 F_sum_of) (G_times : FL.Has P w K mg base cm "times" 3 ["one", "two"] [[]] [] 2 F_times) : FL.Has P w K mg base cm "moment_of" 5 ["loads"] [[]] [] 1 F_moment_of :=
  FL.has_of T.d_moment_of sc_moment_of rfl rfl (by decide) (fun _ _ _ _ _ _ us hl => match us, hl with | [_], _ => rfl) (fun f cdv A outer s H E q hr => by have tk : L2.Takes (L2.cxOf (L2.CX P w) P w K mg base N_moment_of "moment_of" (L2.defScope s_moment_of) f cdv A outer s H E) (fun cls d _ H' => E cls d H') := L2.takes_of rfl rfl rfl rfl; have pa : PassesOwn (model P w) (L2.cxOf (L2.CX P w) P w K mg base N_moment_of "moment_of" (L2.defScope s_moment_of) f cdv A outer s H E).A (L2.cxOf (L2.CX P w) P w K mg base N_moment_of "moment_of" (L2.defScope s_moment_of) f cdv A outer s H E).env (L2.cxOf (L2.CX P w) P w K mg base N_moment_of "moment_of" (L2.defScope s_moment_of) f cdv A outer s H E).xe := L2.passes_of rfl; exact (FL.pssx_cons (FL.psx_set sc_moment_of.nd (i := 1) rfl (by first | exact Or.inl rfl | exact Or.inr rfl) (FL.px_has G_sum_of (hr.mono (by decide)) tk (by rfl) (FL.pax_cons (FL.px_new (FL.pnx_lcE (own := [("load", 3)]) rfl sc_moment_of.nd (FL.pix_any (FL.px_var 0)) (L2.blkOk_by (N := N_moment_of) (sc := L2.defScope s_moment_of) (by decide +kernel)) rfl (fun _ _ _ _ _ => (L2.pg_name (i := 3) sc_moment_of.nd rfl (by first | exact Or.inl rfl | exact Or.inr rfl))) (FL.tgx_n 3) (fun _ _ _ _ _ => FL.ptsx0) (fun _ _ _ _ _ => (FL.px_has G_times (hr.mono (by decide)) L2.takes0 (by rfl) (FL.pax_cons (FL.px_ix (FL.px_var 3) FL.px_int) (FL.pax_cons (FL.px_ix (FL.px_ix (FL.px_var 3) FL.px_int) FL.px_int) FL.pax_nil)))))) FL.pax_nil))) (FL.pssx_cons (FL.psx_set sc_moment_of.nd (i := 2) rfl (by first | exact Or.inl rfl | exact Or.inr rfl) (FL.px_has G_sum_of (hr.mono (by decide)) tk (by rfl) (FL.pax_cons (FL.px_new (FL.pnx_lcE (own := [("load", 3)]) rfl sc_moment_of.nd (FL.pix_any (FL.px_var 0)) (L2.blkOk_by (N := N_moment_of) (sc := L2.defScope s_moment_of) (by decide +kernel)) rfl (fun _ _ _ _ _ => (L2.pg_name (i := 3) sc_moment_of.nd rfl (by first | exact Or.inl rfl | exact Or.inr rfl))) (FL.tgx_n 3) (fun _ _ _ _ _ => FL.ptsx0) (fun _ _ _ _ _ => (FL.px_has G_times (hr.mono (by decide)) L2.takes0 (by rfl) (FL.pax_cons (FL.px_ix (FL.px_var 3) FL.px_int) (FL.pax_cons (FL.px_ix (FL.px_ix (FL.px_var 3) FL.px_int) FL.px_int) FL.pax_nil)))))) FL.pax_nil))) (FL.pssx_one (FL.psx_ret (FL.px_tup (FL.pax_cons (FL.px_var 1) (FL.pax_cons (FL.px_var 2) FL.pax_nil))))))))
abbrev N_over : List Str := ["one", "two"]
theorem sc_over : L2.FnScope N_over ["one", "two"] (L2.defScope s_over) := ⟨rfl, rfl, rfl, by decide +kernel, rfl, by decide +kernel, by decide +kernel⟩
def F_over : List D → M D := callF 2 (sSeq (sIf (tVal (eBin eqD (eBin ixD (eVar 1) (eC (.int 0))) (eC (.int 0)))) (sRaise 1 ["what"] [(eC (.str "zero"))]) sNext) (sRet (eCall F__lowest [(eBin mulD (eBin ixD (eVar 0) (eC (.int 0))) (eBin ixD (eVar 1) (eC (.int 1)))), (eBin mulD (eBin ixD (eVar 0) (eC (.int 1))) (eBin ixD (eVar 1) (eC (.int 0))))])))
theorem has_over (T : Tx K mg cm) (G__lowest : FL.Has P w K mg base cm "_lowest" 2 ["top", "bottom"] [[]] [] 2 F__lowest) : FL.Has P w K mg base cm "over" 3 ["one", "two"] [[]] [] 2 F_over :=
  FL.has_of T.d_over sc_over rfl rfl (by decide) (fun _ _ _ _ _ _ us hl => match us, hl with | [_, _], _ => rfl) (fun f cdv A outer s H E q hr => by have tk : L2.Takes (L2.cxOf (L2.CX P w) P w K mg base N_over "over" (L2.defScope s_over) f cdv A outer s H E) (fun cls d _ H' => E cls d H') := L2.takes_of rfl rfl rfl rfl; have pa : PassesOwn (model P w) (L2.cxOf (L2.CX P w) P w K mg base N_over "over" (L2.defScope s_over) f cdv A outer s H E).A (L2.cxOf (L2.CX P w) P w K mg base N_over "over" (L2.defScope s_over) f cdv A outer s H E).env (L2.cxOf (L2.CX P w) P w K mg base N_over "over" (L2.defScope s_over) f cdv A outer s H E).xe := L2.passes_of rfl; exact (FL.pssx_cons (FL.psx_if (FL.ptx_cmp (L2.op_eqD (FL.hu64 hr)) FL.eq_ok (FL.px_ix (FL.px_var 1) FL.px_int) FL.px_int (L2.nomark _)) (FL.pssx_one (FL.psx_raiseH 1 (T.exc_1) rfl rfl tk (hr.mono (by decide)) (by rfl) (FL.pax_cons FL.px_str FL.pax_nil))) FL.pssx_nil) (FL.pssx_one (FL.psx_ret (FL.px_has G__lowest (hr.mono (by decide)) tk (by rfl) (FL.pax_cons (FL.px_bin L2.op_mulW FL.mul_ok (FL.px_ix (FL.px_var 0) FL.px_int) (FL.px_ix (FL.px_var 1) FL.px_int)) (FL.pax_cons (FL.px_bin L2.op_mulW FL.mul_ok (FL.px_ix (FL.px_var 0) FL.px_int) (FL.px_ix (FL.px_var 1) FL.px_int)) FL.pax_nil)))))))
abbrev N_centre_of : List Str := ["loads", "total", "across", "along"]
theorem sc_centre_of : L2.FnScope N_centre_of ["loads"] (L2.defScope s_centre_of) := ⟨rfl, rfl, rfl, by decide +kernel, rfl, by decide +kernel, by decide +kernel⟩
def F_centre_of : List D → M D := callF 4 (sSeq (sSet 1 (eCall F_total_of [(eVar 0)])) (sSeq (sIf (tVal (eBin eqD (eVar 1) (eC (.tup [(.int 0), (.int 1)])))) (sRaise 3 ["many"] [(eCall (un1 lenD) [(eVar 0)])]) sNext) (sSeq (sUnp [2, 3] (eCall F_moment_of [(eVar 0)])) (sRet (eTup [(eCall F_over [(eVar 2), (eVar 1)]), (eCall F_over [(eVar 3), (eVar 1)])])))))
theorem has_centre_of (T : Tx K mg cm) (G_moment_of : FL.Has P w K mg base cm "moment_of" 5 ["loads"] [[]] [] 1 F_moment_of) (G_over : FL.Has P w K mg base cm "over" 3 ["one", "two"] [[]] [] 2 F_over) (G_total_of : FL.Has P w K mg base cm "total_of" 5 ["loads"] [[]] [] 1 F_total_of) : FL.Has P w K mg base cm "centre_of" 6 ["loads"] [[]] [] 1 F_centre_of :=
  FL.has_of T.d_centre_of sc_centre_of rfl rfl (by decide) (fun _ _ _ _ _ _ us hl => match us, hl with | [_], _ => rfl) (fun f cdv A outer s H E q hr => by have tk : L2.Takes (L2.cxOf (L2.CX P w) P w K mg base N_centre_of "centre_of" (L2.defScope s_centre_of) f cdv A outer s H E) (fun cls d _ H' => E cls d H') := L2.takes_of rfl rfl rfl rfl; have pa : PassesOwn (model P w) (L2.cxOf (L2.CX P w) P w K mg base N_centre_of "centre_of" (L2.defScope s_centre_of) f cdv A outer s H E).A (L2.cxOf (L2.CX P w) P w K mg base N_centre_of "centre_of" (L2.defScope s_centre_of) f cdv A outer s H E).env (L2.cxOf (L2.CX P w) P w K mg base N_centre_of "centre_of" (L2.defScope s_centre_of) f cdv A outer s H E).xe := L2.passes_of rfl; exact (FL.pssx_cons (FL.psx_set sc_centre_of.nd (i := 1) rfl (by first | exact Or.inl rfl | exact Or.inr rfl) (FL.px_has G_total_of (hr.mono (by decide)) tk (by rfl) (FL.pax_cons (FL.px_var 0) FL.pax_nil))) (FL.pssx_cons (FL.psx_if (FL.ptx_cmp (L2.op_eqD (FL.hu64 hr)) FL.eq_ok (FL.px_var 1) (FL.px_gtupE (by rfl) T.c_ZERO) (L2.nomark _)) (FL.pssx_one (FL.psx_raiseH 3 (T.exc_3) rfl rfl tk (hr.mono (by decide)) (by rfl) (FL.pax_cons (FL.px_callB L2.call_len FL.len_ok (by rfl) T.n_len FL.bt_len (FL.pax_cons (FL.px_var 0) FL.pax_nil)) FL.pax_nil))) FL.pssx_nil) (FL.pssx_cons (FL.psx_unp (is := [2, 3]) (FL.px_has G_moment_of (hr.mono (by decide)) tk (by rfl) (FL.pax_cons (FL.px_var 0) FL.pax_nil)) (L2.pg_tup rfl (L2.pgs_cons (L2.pg_name (i := 2) sc_centre_of.nd rfl (by first | exact Or.inl rfl | exact Or.inr rfl)) (L2.pgs_cons (L2.pg_name (i := 3) sc_centre_of.nd rfl (by first | exact Or.inl rfl | exact Or.inr rfl)) L2.pgs_nil)))) (FL.pssx_one (FL.psx_ret (FL.px_tup (FL.pax_cons (FL.px_has G_over (hr.mono (by decide)) tk (by rfl) (FL.pax_cons (FL.px_var 2) (FL.pax_cons (FL.px_var 1) FL.pax_nil))) (FL.pax_cons (FL.px_has G_over (hr.mono (by decide)) tk (by rfl) (FL.pax_cons (FL.px_var 3) (FL.pax_cons (FL.px_var 1) FL.pax_nil))) FL.pax_nil)))))))))
abbrev N__law_middle : List Str := ["loads", "found", "wrong"]
theorem sc__law_middle : L2.FnScope N__law_middle ["loads"] (L2.defScope s__law_middle) := ⟨rfl, rfl, rfl, by decide +kernel, rfl, by decide +kernel, by decide +kernel⟩
def F__law_middle : List D → M D := callF 3 (sSeq (sTry (sSet 1 (eCall F_centre_of [(eVar 0)])) [3] [] 2 (sSet 1 (eLst [(eC (.str "none")), (eXf 2 "many")]))) (sRet (eVar 1)))
theorem has__law_middle (T : Tx K mg cm) (G_centre_of : FL.Has P w K mg base cm "centre_of" 6 ["loads"] [[]] [] 1 F_centre_of) : FL.Has P w K mg base cm "_law_middle" 7 ["loads"] [[]] [] 1 F__law_middle :=
  FL.has_of T.d__law_middle sc__law_middle rfl rfl (by decide) (fun _ _ _ _ _ _ us hl => match us, hl with | [_], _ => rfl) (fun f cdv A outer s H E q hr => by have tk : L2.Takes (L2.cxOf (L2.CX P w) P w K mg base N__law_middle "_law_middle" (L2.defScope s__law_middle) f cdv A outer s H E) (fun cls d _ H' => E cls d H') := L2.takes_of rfl rfl rfl rfl; have pa : PassesOwn (model P w) (L2.cxOf (L2.CX P w) P w K mg base N__law_middle "_law_middle" (L2.defScope s__law_middle) f cdv A outer s H E).A (L2.cxOf (L2.CX P w) P w K mg base N__law_middle "_law_middle" (L2.defScope s__law_middle) f cdv A outer s H E).env (L2.cxOf (L2.CX P w) P w K mg base N__law_middle "_law_middle" (L2.defScope s__law_middle) f cdv A outer s H E).xe := L2.passes_of rfl; exact (FL.pssx_cons (FL.psx_try (i := 2) [3] [] rfl rfl rfl sc__law_middle.nd rfl rfl ⟨by rfl, by decide, .inl T.x_3⟩ tk (fun k hk => by rw [List.mem_singleton.mp hk]; exact T.em_3_3) (fun _ z => nomatch z) (fun W pn xe tk pa => (FL.pssx_one (FL.psx_set sc__law_middle.nd (i := 1) rfl (by first | exact Or.inl rfl | exact Or.inr rfl) (FL.px_has G_centre_of (hr.mono (by decide)) tk (by rfl) (FL.pax_cons (FL.px_var 0) FL.pax_nil))))) (fun a oe k dd pn hk hz hf => (FL.pssx_one (FL.psx_set sc__law_middle.nd (i := 1) rfl (by first | exact Or.inl rfl | exact Or.inr rfl) (FL.px_lst (FL.pax_cons FL.px_str (FL.pax_cons (FL.px_xf (i := 2) (by rw [List.mem_singleton.mp hk]; exact T.xf_3) (by rw [List.mem_singleton.mp hk]; exact T.no_3_many) hz hf) FL.pax_nil))))))) (FL.pssx_one (FL.psx_ret (FL.px_var 1)))))
abbrev N__law_spoilt : List Str := ["hand", "load", "kind", "bad"]
theorem sc__law_spoilt : L2.FnScope N__law_spoilt ["hand", "load"] (L2.defScope s__law_spoilt) := ⟨rfl, rfl, rfl, by decide +kernel, rfl, by decide +kernel, by decide +kernel⟩
def F__law_spoilt : List D → M D := callF 4 (sSeq (sSet 2 (eCall F__law_take [(eVar 0), (eC (.int 3))])) (sSeq (sIf (tVal (eBin eqD (eVar 2) (eC (.int 0)))) (sRet (eLst [(eC (.str "load")), (eBin ixD (eLst [(eC .non), (eTup [(eBin ixD (eVar 1) (eC (.int 0)))]), (eTup [(eBin ixD (eVar 1) (eC (.int 0))), (eBin ixD (eVar 1) (eC (.int 1))), (eC (.int 1))]), (eC (.int 7))]) (eCall F__law_take [(eVar 0), (eC (.int 4))]))])) sNext) (sSeq (sIf (tVal (eBin eqD (eVar 2) (eC (.int 1)))) (sSeq (sSet 3 (eBin ixD (eLst [(eTup [(eUn negD (eC (.int 1))), (eC (.int 1))]), (eTup [(eBin addD (eBin powD (eC (.int 10)) (eC (.int 12))) (eC (.int 1))), (eC (.int 1))]), (eTup [(eC (.int 2)), (eC (.int 4))]), (eC (.int 1)), (eC .non), (eLst [(eC (.int 1)), (eC (.int 1))])]) (eCall F__law_take [(eVar 0), (eC (.int 6))]))) (sRet (eLst [(eC (.str "weight")), (eTup [(eVar 3), (eBin ixD (eLst [(eBin ixD (eVar 1) (eC (.int 1))), (eC .non)]) (eCall F__law_take [(eVar 0), (eC (.int 2))]))])]))) sNext) (sRet (eLst [(eC (.str "place")), (eLst [(eBin ixD (eVar 1) (eC (.int 0))), (eBin ixD (eLst [(eC .non), (eTup [(eTup [(eC (.int 1)), (eC (.int 1))])]), (eTup [(eBin ixD (eBin ixD (eVar 1) (eC (.int 1))) (eC (.int 0))), (eC (.int 2))]), (eTup [(eBin ixD (eBin ixD (eVar 1) (eC (.int 1))) (eC (.int 0))), (eTup [(eC (.int 1)), (eBin addD (eBin powD (eC (.int 10)) (eC (.int 12))) (eC (.int 1)))])])]) (eCall F__law_take [(eVar 0), (eC (.int 4))]))])])))))
theorem has__law_spoilt (T : Tx K mg cm) (G__law_take : FL.Has P w K mg base cm "_law_take" 3 ["hand", "many"] [[]] [] 2 F__law_take) : FL.Has P w K mg base cm "_law_spoilt" 4 ["hand", "load"] [[]] [] 2 F__law_spoilt :=
  FL.has_of T.d__law_spoilt sc__law_spoilt rfl rfl (by decide) (fun _ _ _ _ _ _ us hl => match us, hl with | [_, _], _ => rfl) (fun f cdv A outer s H E q hr => by have tk : L2.Takes (L2.cxOf (L2.CX P w) P w K mg base N__law_spoilt "_law_spoilt" (L2.defScope s__law_spoilt) f cdv A outer s H E) (fun cls d _ H' => E cls d H') := L2.takes_of rfl rfl rfl rfl; have pa : PassesOwn (model P w) (L2.cxOf (L2.CX P w) P w K mg base N__law_spoilt "_law_spoilt" (L2.defScope s__law_spoilt) f cdv A outer s H E).A (L2.cxOf (L2.CX P w) P w K mg base N__law_spoilt "_law_spoilt" (L2.defScope s__law_spoilt) f cdv A outer s H E).env (L2.cxOf (L2.CX P w) P w K mg base N__law_spoilt "_law_spoilt" (L2.defScope s__law_spoilt) f cdv A outer s H E).xe := L2.passes_of rfl; exact (FL.pssx_cons (FL.psx_set sc__law_spoilt.nd (i := 2) rfl (by first | exact Or.inl rfl | exact Or.inr rfl) (FL.px_has G__law_take (hr.mono (by decide)) tk (by rfl) (FL.pax_cons (FL.px_var 0) (FL.pax_cons FL.px_int FL.pax_nil)))) (FL.pssx_cons (FL.psx_if (FL.ptx_cmp (L2.op_eqD (FL.hu64 hr)) FL.eq_ok (FL.px_var 2) FL.px_int (L2.nomark _)) (FL.pssx_one (FL.psx_ret (FL.px_lst (FL.pax_cons FL.px_str (FL.pax_cons (FL.px_ix (FL.px_lst (FL.pax_cons FL.px_non (FL.pax_cons (FL.px_tup (FL.pax_cons (FL.px_ix (FL.px_var 1) FL.px_int) FL.pax_nil)) (FL.pax_cons (FL.px_tup (FL.pax_cons (FL.px_ix (FL.px_var 1) FL.px_int) (FL.pax_cons (FL.px_ix (FL.px_var 1) FL.px_int) (FL.pax_cons FL.px_int FL.pax_nil)))) (FL.pax_cons FL.px_int FL.pax_nil))))) (FL.px_has G__law_take (hr.mono (by decide)) tk (by rfl) (FL.pax_cons (FL.px_var 0) (FL.pax_cons FL.px_int FL.pax_nil)))) FL.pax_nil))))) FL.pssx_nil) (FL.pssx_cons (FL.psx_if (FL.ptx_cmp (L2.op_eqD (FL.hu64 hr)) FL.eq_ok (FL.px_var 2) FL.px_int (L2.nomark _)) (FL.pssx_cons (FL.psx_set sc__law_spoilt.nd (i := 3) rfl (by first | exact Or.inl rfl | exact Or.inr rfl) (FL.px_ix (FL.px_lst (FL.pax_cons (FL.px_tup (FL.pax_cons (FL.px_un L2.un_neg FL.neg_ok FL.px_int) (FL.pax_cons FL.px_int FL.pax_nil))) (FL.pax_cons (FL.px_tup (FL.pax_cons (FL.px_bin FL.op_addA FL.add_ok (FL.px_bin L2.op_pow FL.pow_ok FL.px_int FL.px_int) FL.px_int) (FL.pax_cons FL.px_int FL.pax_nil))) (FL.pax_cons (FL.px_tup (FL.pax_cons FL.px_int (FL.pax_cons FL.px_int FL.pax_nil))) (FL.pax_cons FL.px_int (FL.pax_cons FL.px_non (FL.pax_cons (FL.px_lst (FL.pax_cons FL.px_int (FL.pax_cons FL.px_int FL.pax_nil))) FL.pax_nil))))))) (FL.px_has G__law_take (hr.mono (by decide)) tk (by rfl) (FL.pax_cons (FL.px_var 0) (FL.pax_cons FL.px_int FL.pax_nil))))) (FL.pssx_one (FL.psx_ret (FL.px_lst (FL.pax_cons FL.px_str (FL.pax_cons (FL.px_tup (FL.pax_cons (FL.px_var 3) (FL.pax_cons (FL.px_ix (FL.px_lst (FL.pax_cons (FL.px_ix (FL.px_var 1) FL.px_int) (FL.pax_cons FL.px_non FL.pax_nil))) (FL.px_has G__law_take (hr.mono (by decide)) tk (by rfl) (FL.pax_cons (FL.px_var 0) (FL.pax_cons FL.px_int FL.pax_nil)))) FL.pax_nil))) FL.pax_nil)))))) FL.pssx_nil) (FL.pssx_one (FL.psx_ret (FL.px_lst (FL.pax_cons FL.px_str (FL.pax_cons (FL.px_lst (FL.pax_cons (FL.px_ix (FL.px_var 1) FL.px_int) (FL.pax_cons (FL.px_ix (FL.px_lst (FL.pax_cons FL.px_non (FL.pax_cons (FL.px_tup (FL.pax_cons (FL.px_tup (FL.pax_cons FL.px_int (FL.pax_cons FL.px_int FL.pax_nil))) FL.pax_nil)) (FL.pax_cons (FL.px_tup (FL.pax_cons (FL.px_ix (FL.px_ix (FL.px_var 1) FL.px_int) FL.px_int) (FL.pax_cons FL.px_int FL.pax_nil))) (FL.pax_cons (FL.px_tup (FL.pax_cons (FL.px_ix (FL.px_ix (FL.px_var 1) FL.px_int) FL.px_int) (FL.pax_cons (FL.px_tup (FL.pax_cons FL.px_int (FL.pax_cons (FL.px_bin FL.op_addA FL.add_ok (FL.px_bin L2.op_pow FL.pow_ok FL.px_int FL.px_int) FL.px_int) FL.pax_nil))) FL.pax_nil))) FL.pax_nil))))) (FL.px_has G__law_take (hr.mono (by decide)) tk (by rfl) (FL.pax_cons (FL.px_var 0) (FL.pax_cons FL.px_int FL.pax_nil)))) FL.pax_nil))) FL.pax_nil)))))))))
abbrev N__law_refused : List Str := ["hand", "loads", "marked", "turn", "at", "load", "due", "seen", "row"]
theorem sc__law_refused : L2.FnScope N__law_refused ["hand", "loads"] (L2.defScope s__law_refused) := ⟨rfl, rfl, rfl, by decide +kernel, rfl, by decide +kernel, by decide +kernel⟩
def B__law_refused_0 : SF := (sSeq (sSet 4 (eCall F__law_take [(eVar 0), (eBin addD (eBor (eCall (un1 lenD) [(eVar 2)])) (eC (.int 1)))])) (sSeq (sSet 5 (eTup [(eTup [(eC (.int 1)), (eC (.int 2))]), (eTup [(eTup [(eC (.int 3)), (eC (.int 1))]), (eTup [(eUn negD (eC (.int 4))), (eC (.int 1))])])])) (sMut 2 insF [(eVar 4), (eIf (tTru (eCall F__law_take [(eVar 0), (eC (.int 3))])) (eCall F__law_spoilt [(eVar 0), (eVar 5)]) (eLst [(eC (.str "")), (eVar 5)]))])))
theorem B__law_refused_0_w {ρ : FL.Env} {w : Wd} : B__law_refused_0 ρ w = (sSeq (sSet 4 (eCall F__law_take [(eVar 0), (eBin addD (eBor (eCall (un1 lenD) [(eVar 2)])) (eC (.int 1)))])) (sSeq (sSet 5 (eTup [(eTup [(eC (.int 1)), (eC (.int 2))]), (eTup [(eTup [(eC (.int 3)), (eC (.int 1))]), (eTup [(eUn negD (eC (.int 4))), (eC (.int 1))])])])) (sMut 2 insF [(eVar 4), (eIf (tTru (eCall F__law_take [(eVar 0), (eC (.int 3))])) (eCall F__law_spoilt [(eVar 0), (eVar 5)]) (eLst [(eC (.str "")), (eVar 5)]))]))) ρ w := rfl
def B__law_refused_1 : SF := (sIf (tAnd (tVal (eBin isNonD (eVar 6) (eC .non))) (tTru (eBin ixD (eBin ixD (eVar 2) (eVar 4)) (eC (.int 0))))) (sSet 6 (eLst [(eVar 4), (eBin ixD (eBin ixD (eVar 2) (eVar 4)) (eC (.int 0)))])) sNext)
theorem B__law_refused_1_w {ρ : FL.Env} {w : Wd} : B__law_refused_1 ρ w = (sIf (tAnd (tVal (eBin isNonD (eVar 6) (eC .non))) (tTru (eBin ixD (eBin ixD (eVar 2) (eVar 4)) (eC (.int 0))))) (sSet 6 (eLst [(eVar 4), (eBin ixD (eBin ixD (eVar 2) (eVar 4)) (eC (.int 0)))])) sNext) ρ w := rfl
def F__law_refused : List D → M D := callF 9 (sSeq (sOwn 2 (nLc (iSeq (eVar 1)) [5] (gN 5) tYes (eLst [(eC (.str "")), (eVar 5)]))) (sSeq (sFor (iRng (eC (.int 0)) (eCall F__law_take [(eVar 0), (eC (.int 3))])) (gN 3) B__law_refused_0) (sSeq (sFrz 2) (sSeq (sSet 6 (eIf (tVal (eBin gtD (eCall (un1 lenD) [(eVar 2)]) (eC (.int 8)))) (eLst [(eC (.int 0)), (eC (.str "many"))]) (eC .non))) (sSeq (sFor (iRng (eC (.int 0)) (eCall (un1 lenD) [(eVar 2)])) (gN 4) B__law_refused_1) (sSeq (sSet 7 (eCall F__law_try [(eNew (nLc (iSeq (eVar 2)) [8] (gN 8) tYes (eBin ixD (eVar 8) (eC (.int 1)))))])) (sRet (eIf (tTru (eVar 6)) (eBin eqD (eVar 7) (eVar 6)) (eUn (isiB [.tuple]) (eVar 7))))))))))
theorem has__law_refused (T : Tx K mg cm) (G__law_spoilt : FL.Has P w K mg base cm "_law_spoilt" 4 ["hand", "load"] [[]] [] 2 F__law_spoilt) (G__law_take : FL.Has P w K mg base cm "_law_take" 3 ["hand", "many"] [[]] [] 2 F__law_take) (G__law_try : FL.Has P w K mg base cm "_law_try" 7 ["loads"] [[]] [] 1 F__law_try) : FL.Has P w K mg base cm "_law_refused" 8 ["hand", "loads"] [[]] [] 2 F__law_refused :=
  FL.has_of T.d__law_refused sc__law_refused rfl rfl (by decide) (fun _ _ _ _ _ _ us hl => match us, hl with | [_, _], _ => rfl) (fun f cdv A outer s H E q hr => by have tk : L2.Takes (L2.cxOf (L2.CX P w) P w K mg base N__law_refused "_law_refused" (L2.defScope s__law_refused) f cdv A outer s H E) (fun cls d _ H' => E cls d H') := L2.takes_of rfl rfl rfl rfl; have pa : PassesOwn (model P w) (L2.cxOf (L2.CX P w) P w K mg base N__law_refused "_law_refused" (L2.defScope s__law_refused) f cdv A outer s H E).A (L2.cxOf (L2.CX P w) P w K mg base N__law_refused "_law_refused" (L2.defScope s__law_refused) f cdv A outer s H E).env (L2.cxOf (L2.CX P w) P w K mg base N__law_refused "_law_refused" (L2.defScope s__law_refused) f cdv A outer s H E).xe := L2.passes_of rfl; exact (FL.pssx_cons (FL.psx_ownLc (i := 2) (own := [("load", 5)]) rfl sc__law_refused.nd rfl rfl (L2.sw_true rfl rfl rfl (by decide +kernel)) (FL.pix_any (FL.px_var 1)) (L2.blkOk_by (N := N__law_refused) (sc := L2.defScope s__law_refused) (by decide +kernel)) rfl (fun _ _ _ _ _ => (L2.pg_name (i := 5) sc__law_refused.nd rfl (by first | exact Or.inl rfl | exact Or.inr rfl))) (FL.tgx_n 5) (fun _ _ _ _ _ => FL.ptsx0) (fun _ _ _ _ _ => (FL.px_lst (FL.pax_cons FL.px_str (FL.pax_cons (FL.px_var 5) FL.pax_nil))))) (FL.pssx_cons (FL.psx_for pa rfl (FL.pix_range1 (by rfl) T.n_range (FL.px_has G__law_take (hr.mono (by decide)) tk (by rfl) (FL.pax_cons (FL.px_var 0) (FL.pax_cons FL.px_int FL.pax_nil)))) (L2.pg_name (i := 3) sc__law_refused.nd rfl (by first | exact Or.inl rfl | exact Or.inr rfl)) (FL.tgx_n 3) (FL.pssx_cons (FL.psx_set sc__law_refused.nd (i := 4) rfl (by first | exact Or.inl rfl | exact Or.inr rfl) (FL.px_has G__law_take (hr.mono (by decide)) tk (by rfl) (FL.pax_cons (FL.px_var 0) (FL.pax_cons (FL.px_bin FL.op_addA FL.add_ok (FL.px_bor (FL.px_callB L2.call_len FL.len_ok (by rfl) T.n_len FL.bt_len (FL.pax_cons (FL.px_var 2) FL.pax_nil))) FL.px_int) FL.pax_nil)))) (FL.pssx_cons (FL.psx_set sc__law_refused.nd (i := 5) rfl (by first | exact Or.inl rfl | exact Or.inr rfl) (FL.px_tup (FL.pax_cons (FL.px_tup (FL.pax_cons FL.px_int (FL.pax_cons FL.px_int FL.pax_nil))) (FL.pax_cons (FL.px_tup (FL.pax_cons (FL.px_tup (FL.pax_cons FL.px_int (FL.pax_cons FL.px_int FL.pax_nil))) (FL.pax_cons (FL.px_tup (FL.pax_cons (FL.px_un L2.un_neg FL.neg_ok FL.px_int) (FL.pax_cons FL.px_int FL.pax_nil))) FL.pax_nil))) FL.pax_nil)))) (FL.pssx_one (FL.psx_mut 2 FL.ins_ok PySem.F.slot_list_insert PySem.F.type_list_insert L2.mt_insert (FL.pax_cons (FL.px_var 4) (FL.pax_cons (FL.px_if (FL.ptx_tru (FL.px_has G__law_take (hr.mono (by decide)) tk (by rfl) (FL.pax_cons (FL.px_var 0) (FL.pax_cons FL.px_int FL.pax_nil)))) (FL.px_has G__law_spoilt (hr.mono (by decide)) tk (by rfl) (FL.pax_cons (FL.px_var 0) (FL.pax_cons (FL.px_var 5) FL.pax_nil))) (FL.px_lst (FL.pax_cons FL.px_str (FL.pax_cons (FL.px_var 5) FL.pax_nil)))) FL.pax_nil))))))) (FL.pssx_frz 2 (FL.pssx_cons (FL.psx_set sc__law_refused.nd (i := 6) rfl (by first | exact Or.inl rfl | exact Or.inr rfl) (FL.px_if (FL.ptx_cmp L2.op_gt FL.gt_ok (FL.px_callB L2.call_len FL.len_ok (by rfl) T.n_len FL.bt_len (FL.pax_cons (FL.px_var 2) FL.pax_nil)) FL.px_int (L2.nomark _)) (FL.px_lst (FL.pax_cons FL.px_int (FL.pax_cons FL.px_str FL.pax_nil))) FL.px_non)) (FL.pssx_cons (FL.psx_for pa rfl (FL.pix_range1 (by rfl) T.n_range (FL.px_callB L2.call_len FL.len_ok (by rfl) T.n_len FL.bt_len (FL.pax_cons (FL.px_var 2) FL.pax_nil))) (L2.pg_name (i := 4) sc__law_refused.nd rfl (by first | exact Or.inl rfl | exact Or.inr rfl)) (FL.tgx_n 4) (FL.pssx_one (FL.psx_if (FL.PWX.pt (FL.pwx_and (FL.ptx_cmp L2.op_isN FL.isNon_ok (FL.px_var 6) FL.px_non (L2.nomark _)) (FL.pwx_and1 (FL.ptx_tru (FL.px_ix (FL.px_ix (FL.px_var 2) (FL.px_var 4)) FL.px_int))))) (FL.pssx_one (FL.psx_set sc__law_refused.nd (i := 6) rfl (by first | exact Or.inl rfl | exact Or.inr rfl) (FL.px_lst (FL.pax_cons (FL.px_var 4) (FL.pax_cons (FL.px_ix (FL.px_ix (FL.px_var 2) (FL.px_var 4)) FL.px_int) FL.pax_nil))))) FL.pssx_nil))) (FL.pssx_cons (FL.psx_set sc__law_refused.nd (i := 7) rfl (by first | exact Or.inl rfl | exact Or.inr rfl) (FL.px_has G__law_try (hr.mono (by decide)) tk (by rfl) (FL.pax_cons (FL.px_new (FL.pnx_lcE (own := [("row", 8)]) rfl sc__law_refused.nd (FL.pix_any (FL.px_var 2)) (L2.blkOk_by (N := N__law_refused) (sc := L2.defScope s__law_refused) (by decide +kernel)) rfl (fun _ _ _ _ _ => (L2.pg_name (i := 8) sc__law_refused.nd rfl (by first | exact Or.inl rfl | exact Or.inr rfl))) (FL.tgx_n 8) (fun _ _ _ _ _ => FL.ptsx0) (fun _ _ _ _ _ => (FL.px_ix (FL.px_var 8) FL.px_int)))) FL.pax_nil))) (FL.pssx_one (FL.psx_ret (FL.px_if (FL.ptx_tru (FL.px_var 6)) (FL.px_cmp (L2.op_eqD (FL.hu64 hr)) FL.eq_ok (FL.px_var 7) (FL.px_var 6) (L2.nomark _)) (FL.px_isi .tuple (by rfl) T.n_isinstance (by rfl) T.n_tuple FL.bt_tuple (FL.px_var 7))))))))))))
abbrev N__law_bounded : List Str := ["hand", "kind"]
theorem sc__law_bounded : L2.FnScope N__law_bounded ["hand"] (L2.defScope s__law_bounded) := ⟨rfl, rfl, rfl, by decide +kernel, rfl, by decide +kernel, by decide +kernel⟩
def F__law_bounded : List D → M D := callF 2 (sSeq (sSet 1 (eCall F__law_take [(eVar 0), (eC (.int 8))])) (sSeq (sIf (tVal (eBin ltD (eVar 1) (eC (.int 6)))) (sRet (eBin addD (eC (.int 1)) (eCall F__law_take [(eVar 0), (eC (.int 4))]))) sNext) (sRet (eIf (tVal (eBin eqD (eVar 1) (eC (.int 6)))) (eBin powD (eC (.int 10)) (eC (.int 12))) (eBin addD (eBin addD (eC (.int 1)) (eBin mulD (eCall F__law_take [(eVar 0), (eBin powD (eC (.int 10)) (eC (.int 6)))]) (eBin powD (eC (.int 10)) (eC (.int 6))))) (eCall F__law_take [(eVar 0), (eBin powD (eC (.int 10)) (eC (.int 6)))]))))))
theorem has__law_bounded (T : Tx K mg cm) (G__law_take : FL.Has P w K mg base cm "_law_take" 3 ["hand", "many"] [[]] [] 2 F__law_take) : FL.Has P w K mg base cm "_law_bounded" 4 ["hand"] [[]] [] 1 F__law_bounded :=
  FL.has_of T.d__law_bounded sc__law_bounded rfl rfl (by decide) (fun _ _ _ _ _ _ us hl => match us, hl with | [_], _ => rfl) (fun f cdv A outer s H E q hr => by have tk : L2.Takes (L2.cxOf (L2.CX P w) P w K mg base N__law_bounded "_law_bounded" (L2.defScope s__law_bounded) f cdv A outer s H E) (fun cls d _ H' => E cls d H') := L2.takes_of rfl rfl rfl rfl; have pa : PassesOwn (model P w) (L2.cxOf (L2.CX P w) P w K mg base N__law_bounded "_law_bounded" (L2.defScope s__law_bounded) f cdv A outer s H E).A (L2.cxOf (L2.CX P w) P w K mg base N__law_bounded "_law_bounded" (L2.defScope s__law_bounded) f cdv A outer s H E).env (L2.cxOf (L2.CX P w) P w K mg base N__law_bounded "_law_bounded" (L2.defScope s__law_bounded) f cdv A outer s H E).xe := L2.passes_of rfl; exact (FL.pssx_cons (FL.psx_set sc__law_bounded.nd (i := 1) rfl (by first | exact Or.inl rfl | exact Or.inr rfl) (FL.px_has G__law_take (hr.mono (by decide)) tk (by rfl) (FL.pax_cons (FL.px_var 0) (FL.pax_cons FL.px_int FL.pax_nil)))) (FL.pssx_cons (FL.psx_if (FL.ptx_cmp L2.op_lt FL.lt_ok (FL.px_var 1) FL.px_int (L2.nomark _)) (FL.pssx_one (FL.psx_ret (FL.px_bin FL.op_addA FL.add_ok FL.px_int (FL.px_has G__law_take (hr.mono (by decide)) tk (by rfl) (FL.pax_cons (FL.px_var 0) (FL.pax_cons FL.px_int FL.pax_nil)))))) FL.pssx_nil) (FL.pssx_one (FL.psx_ret (FL.px_if (FL.ptx_cmp (L2.op_eqD (FL.hu64 hr)) FL.eq_ok (FL.px_var 1) FL.px_int (L2.nomark _)) (FL.px_bin L2.op_pow FL.pow_ok FL.px_int FL.px_int) (FL.px_bin FL.op_addA FL.add_ok (FL.px_bin FL.op_addA FL.add_ok FL.px_int (FL.px_bin L2.op_mulW FL.mul_ok (FL.px_has G__law_take (hr.mono (by decide)) tk (by rfl) (FL.pax_cons (FL.px_var 0) (FL.pax_cons (FL.px_bin L2.op_pow FL.pow_ok FL.px_int FL.px_int) FL.pax_nil))) (FL.px_bin L2.op_pow FL.pow_ok FL.px_int FL.px_int))) (FL.px_has G__law_take (hr.mono (by decide)) tk (by rfl) (FL.pax_cons (FL.px_var 0) (FL.pax_cons (FL.px_bin L2.op_pow FL.pow_ok FL.px_int FL.px_int) FL.pax_nil))))))))))
abbrev N__law_arm : List Str := ["hand"]
theorem sc__law_arm : L2.FnScope N__law_arm ["hand"] (L2.defScope s__law_arm) := ⟨rfl, rfl, rfl, by decide +kernel, rfl, by decide +kernel, by decide +kernel⟩
def F__law_arm : List D → M D := callF 1 (sSeq (sIf (tTru (eCall F__law_take [(eVar 0), (eC (.int 4))])) (sRet (eCall F__law_ratio [(eBin addD (eC (.int 1)) (eCall F__law_take [(eVar 0), (eC (.int 4))])), (eBin addD (eC (.int 1)) (eCall F__law_take [(eVar 0), (eC (.int 3))]))])) sNext) (sRet (eCall F__law_ratio [(eCall F__law_bounded [(eVar 0)]), (eCall F__law_bounded [(eVar 0)])])))
theorem has__law_arm (T : Tx K mg cm) (G__law_bounded : FL.Has P w K mg base cm "_law_bounded" 4 ["hand"] [[]] [] 1 F__law_bounded) (G__law_ratio : FL.Has P w K mg base cm "_law_ratio" 3 ["top", "bottom"] [[]] [] 2 F__law_ratio) (G__law_take : FL.Has P w K mg base cm "_law_take" 3 ["hand", "many"] [[]] [] 2 F__law_take) : FL.Has P w K mg base cm "_law_arm" 5 ["hand"] [[]] [] 1 F__law_arm :=
  FL.has_of T.d__law_arm sc__law_arm rfl rfl (by decide) (fun _ _ _ _ _ _ us hl => match us, hl with | [_], _ => rfl) (fun f cdv A outer s H E q hr => by have tk : L2.Takes (L2.cxOf (L2.CX P w) P w K mg base N__law_arm "_law_arm" (L2.defScope s__law_arm) f cdv A outer s H E) (fun cls d _ H' => E cls d H') := L2.takes_of rfl rfl rfl rfl; have pa : PassesOwn (model P w) (L2.cxOf (L2.CX P w) P w K mg base N__law_arm "_law_arm" (L2.defScope s__law_arm) f cdv A outer s H E).A (L2.cxOf (L2.CX P w) P w K mg base N__law_arm "_law_arm" (L2.defScope s__law_arm) f cdv A outer s H E).env (L2.cxOf (L2.CX P w) P w K mg base N__law_arm "_law_arm" (L2.defScope s__law_arm) f cdv A outer s H E).xe := L2.passes_of rfl; exact (FL.pssx_cons (FL.psx_if (FL.ptx_tru (FL.px_has G__law_take (hr.mono (by decide)) tk (by rfl) (FL.pax_cons (FL.px_var 0) (FL.pax_cons FL.px_int FL.pax_nil)))) (FL.pssx_one (FL.psx_ret (FL.px_has G__law_ratio (hr.mono (by decide)) tk (by rfl) (FL.pax_cons (FL.px_bin FL.op_addA FL.add_ok FL.px_int (FL.px_has G__law_take (hr.mono (by decide)) tk (by rfl) (FL.pax_cons (FL.px_var 0) (FL.pax_cons FL.px_int FL.pax_nil)))) (FL.pax_cons (FL.px_bin FL.op_addA FL.add_ok FL.px_int (FL.px_has G__law_take (hr.mono (by decide)) tk (by rfl) (FL.pax_cons (FL.px_var 0) (FL.pax_cons FL.px_int FL.pax_nil)))) FL.pax_nil))))) FL.pssx_nil) (FL.pssx_one (FL.psx_ret (FL.px_has G__law_ratio (hr.mono (by decide)) tk (by rfl) (FL.pax_cons (FL.px_has G__law_bounded (hr.mono (by decide)) tk (by rfl) (FL.pax_cons (FL.px_var 0) FL.pax_nil)) (FL.pax_cons (FL.px_has G__law_bounded (hr.mono (by decide)) tk (by rfl) (FL.pax_cons (FL.px_var 0) FL.pax_nil)) FL.pax_nil)))))))
abbrev N__law_tuples : List Str := ["thing", "item"]
theorem sc__law_tuples : L2.FnScope N__law_tuples ["thing"] (L2.defScope s__law_tuples) := ⟨rfl, rfl, rfl, by decide +kernel, rfl, by decide +kernel, by decide +kernel⟩
def F__law_tuples : Nat → List D → M D
  | 0 => fun _ => M.fail
  | n + 1 => callF 2 (sSeq (sIf (tTru (eUn (isiB [.tuple]) (eVar 0))) (sRet (eNot (tTru (eNew (nLc (iSeq (eVar 0)) [1] (gN 1) (tNot (tTru (eCall (F__law_tuples n) [(eVar 1)]))) (eC (.int 1))))))) sNext) (sRet (eAnd (eUn (isiB [.int]) (eVar 0)) (eNot (tTru (eUn (isiB [.bool]) (eVar 0)))))))
theorem has__law_tuples (T : Tx K mg cm)  : ∀ n, FL.Has P w K mg base cm "_law_tuples" (n + 2) ["thing"] [[]] [] 1 (F__law_tuples n)
  | 0 => FL.has_no T.d__law_tuples rfl (fun _ _ _ _ _ _ us hl => match us, hl with | [_], _ => rfl)
  | n + 1 => by have ih := has__law_tuples T  n; exact FL.has_of T.d__law_tuples sc__law_tuples rfl rfl (by decide) (fun _ _ _ _ _ _ us hl => match us, hl with | [_], _ => rfl) (fun f cdv A outer s H E q hr => by have tk : L2.Takes (L2.cxOf (L2.CX P w) P w K mg base N__law_tuples "_law_tuples" (L2.defScope s__law_tuples) f cdv A outer s H E) (fun cls d _ H' => E cls d H') := L2.takes_of rfl rfl rfl rfl; have pa : PassesOwn (model P w) (L2.cxOf (L2.CX P w) P w K mg base N__law_tuples "_law_tuples" (L2.defScope s__law_tuples) f cdv A outer s H E).A (L2.cxOf (L2.CX P w) P w K mg base N__law_tuples "_law_tuples" (L2.defScope s__law_tuples) f cdv A outer s H E).env (L2.cxOf (L2.CX P w) P w K mg base N__law_tuples "_law_tuples" (L2.defScope s__law_tuples) f cdv A outer s H E).xe := L2.passes_of rfl; exact (FL.pssx_cons (FL.psx_if (FL.ptx_tru (FL.px_isi .tuple (by rfl) T.n_isinstance (by rfl) T.n_tuple FL.bt_tuple (FL.px_var 0))) (FL.pssx_one (FL.psx_ret (FL.px_not (FL.px_new (FL.pnx_lcE (own := [("item", 1)]) rfl sc__law_tuples.nd (FL.pix_any (FL.px_var 0)) (L2.blkOk_by (N := N__law_tuples) (sc := L2.defScope s__law_tuples) (by decide +kernel)) rfl (fun _ _ _ _ _ => (L2.pg_name (i := 1) sc__law_tuples.nd rfl (by first | exact Or.inl rfl | exact Or.inr rfl))) (FL.tgx_n 1) (fun _ _ _ _ _ => (FL.ptsx1 (FL.ptx_not (FL.ptx_tru (FL.px_has ih hr L2.takes0 (by rfl) (FL.pax_cons (FL.px_var 1) FL.pax_nil)))))) (fun _ _ _ _ _ => FL.px_int)))))) FL.pssx_nil) (FL.pssx_one (FL.psx_ret (FL.px_and (FL.px_isi .int (by rfl) T.n_isinstance (by rfl) T.n_int FL.bt_int (FL.px_var 0)) (FL.px_one (FL.px_not (FL.px_isi .bool (by rfl) T.n_isinstance (by rfl) T.n_bool FL.bt_bool (FL.px_var 0)))))))))
abbrev N__law_coordinate : List Str := ["hand"]
theorem sc__law_coordinate : L2.FnScope N__law_coordinate ["hand"] (L2.defScope s__law_coordinate) := ⟨rfl, rfl, rfl, by decide +kernel, rfl, by decide +kernel, by decide +kernel⟩
def F__law_coordinate : List D → M D := callF 1 (sSeq (sIf (tTru (eCall F__law_take [(eVar 0), (eC (.int 5))])) (sRet (eTup [(eBin subD (eCall F__law_take [(eVar 0), (eC (.int 9))]) (eC (.int 4))), (eC (.int 1))])) sNext) (sRet (eCall F__law_ratio [(eBin mulD (eCall F__law_bounded [(eVar 0)]) (eBin subD (eC (.int 1)) (eBin mulD (eC (.int 2)) (eCall F__law_take [(eVar 0), (eC (.int 2))])))), (eCall F__law_bounded [(eVar 0)])])))
theorem has__law_coordinate (T : Tx K mg cm) (G__law_bounded : FL.Has P w K mg base cm "_law_bounded" 4 ["hand"] [[]] [] 1 F__law_bounded) (G__law_ratio : FL.Has P w K mg base cm "_law_ratio" 3 ["top", "bottom"] [[]] [] 2 F__law_ratio) (G__law_take : FL.Has P w K mg base cm "_law_take" 3 ["hand", "many"] [[]] [] 2 F__law_take) : FL.Has P w K mg base cm "_law_coordinate" 5 ["hand"] [[]] [] 1 F__law_coordinate :=
  FL.has_of T.d__law_coordinate sc__law_coordinate rfl rfl (by decide) (fun _ _ _ _ _ _ us hl => match us, hl with | [_], _ => rfl) (fun f cdv A outer s H E q hr => by have tk : L2.Takes (L2.cxOf (L2.CX P w) P w K mg base N__law_coordinate "_law_coordinate" (L2.defScope s__law_coordinate) f cdv A outer s H E) (fun cls d _ H' => E cls d H') := L2.takes_of rfl rfl rfl rfl; have pa : PassesOwn (model P w) (L2.cxOf (L2.CX P w) P w K mg base N__law_coordinate "_law_coordinate" (L2.defScope s__law_coordinate) f cdv A outer s H E).A (L2.cxOf (L2.CX P w) P w K mg base N__law_coordinate "_law_coordinate" (L2.defScope s__law_coordinate) f cdv A outer s H E).env (L2.cxOf (L2.CX P w) P w K mg base N__law_coordinate "_law_coordinate" (L2.defScope s__law_coordinate) f cdv A outer s H E).xe := L2.passes_of rfl; exact (FL.pssx_cons (FL.psx_if (FL.ptx_tru (FL.px_has G__law_take (hr.mono (by decide)) tk (by rfl) (FL.pax_cons (FL.px_var 0) (FL.pax_cons FL.px_int FL.pax_nil)))) (FL.pssx_one (FL.psx_ret (FL.px_tup (FL.pax_cons (FL.px_bin L2.op_sub FL.sub_ok (FL.px_has G__law_take (hr.mono (by decide)) tk (by rfl) (FL.pax_cons (FL.px_var 0) (FL.pax_cons FL.px_int FL.pax_nil))) FL.px_int) (FL.pax_cons FL.px_int FL.pax_nil))))) FL.pssx_nil) (FL.pssx_one (FL.psx_ret (FL.px_has G__law_ratio (hr.mono (by decide)) tk (by rfl) (FL.pax_cons (FL.px_bin L2.op_mulW FL.mul_ok (FL.px_has G__law_bounded (hr.mono (by decide)) tk (by rfl) (FL.pax_cons (FL.px_var 0) FL.pax_nil)) (FL.px_bin L2.op_sub FL.sub_ok FL.px_int (FL.px_bin L2.op_mulW FL.mul_ok FL.px_int (FL.px_has G__law_take (hr.mono (by decide)) tk (by rfl) (FL.pax_cons (FL.px_var 0) (FL.pax_cons FL.px_int FL.pax_nil)))))) (FL.pax_cons (FL.px_has G__law_bounded (hr.mono (by decide)) tk (by rfl) (FL.pax_cons (FL.px_var 0) FL.pax_nil)) FL.pax_nil)))))))
abbrev N__law_near : List Str := ["hand"]
theorem sc__law_near : L2.FnScope N__law_near ["hand"] (L2.defScope s__law_near) := ⟨rfl, rfl, rfl, by decide +kernel, rfl, by decide +kernel, by decide +kernel⟩
def F__law_near : List D → M D := callF 1 (sRet (eCall F__law_ratio [(eBin subD (eCall F__law_take [(eVar 0), (eC (.int 9))]) (eC (.int 4))), (eIf (tTru (eCall F__law_take [(eVar 0), (eC (.int 4))])) (eC (.int 1)) (eC (.int 2)))]))
theorem has__law_near (T : Tx K mg cm) (G__law_ratio : FL.Has P w K mg base cm "_law_ratio" 3 ["top", "bottom"] [[]] [] 2 F__law_ratio) (G__law_take : FL.Has P w K mg base cm "_law_take" 3 ["hand", "many"] [[]] [] 2 F__law_take) : FL.Has P w K mg base cm "_law_near" 4 ["hand"] [[]] [] 1 F__law_near :=
  FL.has_of T.d__law_near sc__law_near rfl rfl (by decide) (fun _ _ _ _ _ _ us hl => match us, hl with | [_], _ => rfl) (fun f cdv A outer s H E q hr => by have tk : L2.Takes (L2.cxOf (L2.CX P w) P w K mg base N__law_near "_law_near" (L2.defScope s__law_near) f cdv A outer s H E) (fun cls d _ H' => E cls d H') := L2.takes_of rfl rfl rfl rfl; have pa : PassesOwn (model P w) (L2.cxOf (L2.CX P w) P w K mg base N__law_near "_law_near" (L2.defScope s__law_near) f cdv A outer s H E).A (L2.cxOf (L2.CX P w) P w K mg base N__law_near "_law_near" (L2.defScope s__law_near) f cdv A outer s H E).env (L2.cxOf (L2.CX P w) P w K mg base N__law_near "_law_near" (L2.defScope s__law_near) f cdv A outer s H E).xe := L2.passes_of rfl; exact (FL.pssx_one (FL.psx_ret (FL.px_has G__law_ratio (hr.mono (by decide)) tk (by rfl) (FL.pax_cons (FL.px_bin L2.op_sub FL.sub_ok (FL.px_has G__law_take (hr.mono (by decide)) tk (by rfl) (FL.pax_cons (FL.px_var 0) (FL.pax_cons FL.px_int FL.pax_nil))) FL.px_int) (FL.pax_cons (FL.px_if (FL.ptx_tru (FL.px_has G__law_take (hr.mono (by decide)) tk (by rfl) (FL.pax_cons (FL.px_var 0) (FL.pax_cons FL.px_int FL.pax_nil)))) FL.px_int FL.px_int) FL.pax_nil))))))
abbrev N_one_load : List Str := ["loads", "centre"]
theorem sc_one_load : L2.FnScope N_one_load ["loads"] (L2.defScope s_one_load) := ⟨rfl, rfl, rfl, by decide +kernel, rfl, by decide +kernel, by decide +kernel⟩
def F_one_load : List D → M D := callF 2 (sSeq (sSet 1 (eCall F_centre_of [(eVar 0)])) (sRet (eTup [(eTup [(eCall F_total_of [(eVar 0)]), (eVar 1)])])))
theorem has_one_load (T : Tx K mg cm) (G_centre_of : FL.Has P w K mg base cm "centre_of" 6 ["loads"] [[]] [] 1 F_centre_of) (G_total_of : FL.Has P w K mg base cm "total_of" 5 ["loads"] [[]] [] 1 F_total_of) : FL.Has P w K mg base cm "one_load" 7 ["loads"] [[]] [] 1 F_one_load :=
  FL.has_of T.d_one_load sc_one_load rfl rfl (by decide) (fun _ _ _ _ _ _ us hl => match us, hl with | [_], _ => rfl) (fun f cdv A outer s H E q hr => by have tk : L2.Takes (L2.cxOf (L2.CX P w) P w K mg base N_one_load "one_load" (L2.defScope s_one_load) f cdv A outer s H E) (fun cls d _ H' => E cls d H') := L2.takes_of rfl rfl rfl rfl; have pa : PassesOwn (model P w) (L2.cxOf (L2.CX P w) P w K mg base N_one_load "one_load" (L2.defScope s_one_load) f cdv A outer s H E).A (L2.cxOf (L2.CX P w) P w K mg base N_one_load "one_load" (L2.defScope s_one_load) f cdv A outer s H E).env (L2.cxOf (L2.CX P w) P w K mg base N_one_load "one_load" (L2.defScope s_one_load) f cdv A outer s H E).xe := L2.passes_of rfl; exact (FL.pssx_cons (FL.psx_set sc_one_load.nd (i := 1) rfl (by first | exact Or.inl rfl | exact Or.inr rfl) (FL.px_has G_centre_of (hr.mono (by decide)) tk (by rfl) (FL.pax_cons (FL.px_var 0) FL.pax_nil))) (FL.pssx_one (FL.psx_ret (FL.px_tup (FL.pax_cons (FL.px_tup (FL.pax_cons (FL.px_has G_total_of (hr.mono (by decide)) tk (by rfl) (FL.pax_cons (FL.px_var 0) FL.pax_nil)) (FL.pax_cons (FL.px_var 1) FL.pax_nil))) FL.pax_nil))))))
abbrev N__law_together : List Str := ["loads", "found", "wrong"]
theorem sc__law_together : L2.FnScope N__law_together ["loads"] (L2.defScope s__law_together) := ⟨rfl, rfl, rfl, by decide +kernel, rfl, by decide +kernel, by decide +kernel⟩
def F__law_together : List D → M D := callF 3 (sSeq (sTry (sSet 1 (eCall F_one_load [(eVar 0)])) [3] [] 2 (sSet 1 (eLst [(eC (.str "none")), (eXf 2 "many")]))) (sRet (eVar 1)))
theorem has__law_together (T : Tx K mg cm) (G_one_load : FL.Has P w K mg base cm "one_load" 7 ["loads"] [[]] [] 1 F_one_load) : FL.Has P w K mg base cm "_law_together" 8 ["loads"] [[]] [] 1 F__law_together :=
  FL.has_of T.d__law_together sc__law_together rfl rfl (by decide) (fun _ _ _ _ _ _ us hl => match us, hl with | [_], _ => rfl) (fun f cdv A outer s H E q hr => by have tk : L2.Takes (L2.cxOf (L2.CX P w) P w K mg base N__law_together "_law_together" (L2.defScope s__law_together) f cdv A outer s H E) (fun cls d _ H' => E cls d H') := L2.takes_of rfl rfl rfl rfl; have pa : PassesOwn (model P w) (L2.cxOf (L2.CX P w) P w K mg base N__law_together "_law_together" (L2.defScope s__law_together) f cdv A outer s H E).A (L2.cxOf (L2.CX P w) P w K mg base N__law_together "_law_together" (L2.defScope s__law_together) f cdv A outer s H E).env (L2.cxOf (L2.CX P w) P w K mg base N__law_together "_law_together" (L2.defScope s__law_together) f cdv A outer s H E).xe := L2.passes_of rfl; exact (FL.pssx_cons (FL.psx_try (i := 2) [3] [] rfl rfl rfl sc__law_together.nd rfl rfl ⟨by rfl, by decide, .inl T.x_3⟩ tk (fun k hk => by rw [List.mem_singleton.mp hk]; exact T.em_3_3) (fun _ z => nomatch z) (fun W pn xe tk pa => (FL.pssx_one (FL.psx_set sc__law_together.nd (i := 1) rfl (by first | exact Or.inl rfl | exact Or.inr rfl) (FL.px_has G_one_load (hr.mono (by decide)) tk (by rfl) (FL.pax_cons (FL.px_var 0) FL.pax_nil))))) (fun a oe k dd pn hk hz hf => (FL.pssx_one (FL.psx_set sc__law_together.nd (i := 1) rfl (by first | exact Or.inl rfl | exact Or.inr rfl) (FL.px_lst (FL.pax_cons FL.px_str (FL.pax_cons (FL.px_xf (i := 2) (by rw [List.mem_singleton.mp hk]; exact T.xf_3) (by rw [List.mem_singleton.mp hk]; exact T.no_3_many) hz hf) FL.pax_nil))))))) (FL.pssx_one (FL.psx_ret (FL.px_var 1)))))
abbrev N__law_over : List Str := ["one", "other"]
theorem sc__law_over : L2.FnScope N__law_over ["one", "other"] (L2.defScope s__law_over) := ⟨rfl, rfl, rfl, by decide +kernel, rfl, by decide +kernel, by decide +kernel⟩
def F__law_over : List D → M D := callF 2 (sRet (eCall F__law_ratio [(eBin mulD (eBin ixD (eVar 0) (eC (.int 0))) (eBin ixD (eVar 1) (eC (.int 1)))), (eBin mulD (eBin ixD (eVar 0) (eC (.int 1))) (eBin ixD (eVar 1) (eC (.int 0))))]))
theorem has__law_over (T : Tx K mg cm) (G__law_ratio : FL.Has P w K mg base cm "_law_ratio" 3 ["top", "bottom"] [[]] [] 2 F__law_ratio) : FL.Has P w K mg base cm "_law_over" 4 ["one", "other"] [[]] [] 2 F__law_over :=
  FL.has_of T.d__law_over sc__law_over rfl rfl (by decide) (fun _ _ _ _ _ _ us hl => match us, hl with | [_, _], _ => rfl) (fun f cdv A outer s H E q hr => by have tk : L2.Takes (L2.cxOf (L2.CX P w) P w K mg base N__law_over "_law_over" (L2.defScope s__law_over) f cdv A outer s H E) (fun cls d _ H' => E cls d H') := L2.takes_of rfl rfl rfl rfl; have pa : PassesOwn (model P w) (L2.cxOf (L2.CX P w) P w K mg base N__law_over "_law_over" (L2.defScope s__law_over) f cdv A outer s H E).A (L2.cxOf (L2.CX P w) P w K mg base N__law_over "_law_over" (L2.defScope s__law_over) f cdv A outer s H E).env (L2.cxOf (L2.CX P w) P w K mg base N__law_over "_law_over" (L2.defScope s__law_over) f cdv A outer s H E).xe := L2.passes_of rfl; exact (FL.pssx_one (FL.psx_ret (FL.px_has G__law_ratio (hr.mono (by decide)) tk (by rfl) (FL.pax_cons (FL.px_bin L2.op_mulW FL.mul_ok (FL.px_ix (FL.px_var 0) FL.px_int) (FL.px_ix (FL.px_var 1) FL.px_int)) (FL.pax_cons (FL.px_bin L2.op_mulW FL.mul_ok (FL.px_ix (FL.px_var 0) FL.px_int) (FL.px_ix (FL.px_var 1) FL.px_int)) FL.pax_nil))))))
abbrev N_law : List Str := ["script", "hand", "many", "great", "nothing", "loads", "turn", "weight", "place", "given", "kept", "found", "total", "across", "along", "middle", "turned", "at", "rest", "nine", "load"]
theorem sc_law : L2.FnScope N_law ["script"] (L2.defScope s_law) := ⟨rfl, rfl, rfl, by decide +kernel, rfl, by decide +kernel, by decide +kernel⟩
def B_law_0 : SF := (sSeq (sSet 7 (eIf (tOr (tTru (eVar 4)) (tVal (eBin eqD (eCall F__law_take [(eVar 1), (eC (.int 5))]) (eC (.int 0))))) (eTup [(eC (.int 0)), (eC (.int 1))]) (eCall F__law_arm [(eVar 1)]))) (sSeq (sSet 8 (eIf (tTru (eVar 3)) (eTup [(eCall F__law_coordinate [(eVar 1)]), (eCall F__law_coordinate [(eVar 1)])]) (eTup [(eCall F__law_near [(eVar 1)]), (eCall F__law_near [(eVar 1)])]))) (sApp 5 (eTup [(eVar 7), (eVar 8)]))))
theorem B_law_0_w {ρ : FL.Env} {w : Wd} : B_law_0 ρ w = (sSeq (sSet 7 (eIf (tOr (tTru (eVar 4)) (tVal (eBin eqD (eCall F__law_take [(eVar 1), (eC (.int 5))]) (eC (.int 0))))) (eTup [(eC (.int 0)), (eC (.int 1))]) (eCall F__law_arm [(eVar 1)]))) (sSeq (sSet 8 (eIf (tTru (eVar 3)) (eTup [(eCall F__law_coordinate [(eVar 1)]), (eCall F__law_coordinate [(eVar 1)])]) (eTup [(eCall F__law_near [(eVar 1)]), (eCall F__law_near [(eVar 1)])]))) (sApp 5 (eTup [(eVar 7), (eVar 8)])))) ρ w := rfl
def B_law_1 : SF := (sSeq (sSet 18 (eBin addD (eSlice (eVar 5) none (some (eVar 17))) (eSlice (eVar 5) (some (eBin addD (eVar 17) (eC (.int 1)))) none))) (sSeq (sUnp [7, 8] (eBin ixD (eVar 5) (eVar 17))) (sSeq (sIf (tVal (eBin neD (eCall F__law_plus [(eCall F_total_of [(eVar 18)]), (eVar 7)]) (eVar 12))) (sRet (eC (.bl false))) sNext) (sIf (tVal (eBin neD (eCall F__law_plus [(eBin ixD (eCall F_moment_of [(eVar 18)]) (eC (.int 1))), (eCall F__law_times [(eVar 7), (eBin ixD (eVar 8) (eC (.int 1)))])]) (eVar 14))) (sRet (eC (.bl false))) sNext))))
theorem B_law_1_w {ρ : FL.Env} {w : Wd} : B_law_1 ρ w = (sSeq (sSet 18 (eBin addD (eSlice (eVar 5) none (some (eVar 17))) (eSlice (eVar 5) (some (eBin addD (eVar 17) (eC (.int 1)))) none))) (sSeq (sUnp [7, 8] (eBin ixD (eVar 5) (eVar 17))) (sSeq (sIf (tVal (eBin neD (eCall F__law_plus [(eCall F_total_of [(eVar 18)]), (eVar 7)]) (eVar 12))) (sRet (eC (.bl false))) sNext) (sIf (tVal (eBin neD (eCall F__law_plus [(eBin ixD (eCall F_moment_of [(eVar 18)]) (eC (.int 1))), (eCall F__law_times [(eVar 7), (eBin ixD (eVar 8) (eC (.int 1)))])]) (eVar 14))) (sRet (eC (.bl false))) sNext)))) ρ w := rfl
def F_law : List D → M D := callF 21 (sSeq (sSet 1 (eCall F__law_hand [(eVar 0)])) (sSeq (sSet 2 (eCall F__law_take [(eVar 1), (eC (.int 9))])) (sSeq (sSet 3 (eBin eqD (eCall F__law_take [(eVar 1), (eC (.int 3))]) (eC (.int 0)))) (sSeq (sSet 4 (eBin eqD (eCall F__law_take [(eVar 1), (eC (.int 6))]) (eC (.int 0)))) (sSeq (sOwn 5 (evs [])) (sSeq (sFor (iRng (eC (.int 0)) (eVar 2)) (gN 6) B_law_0) (sSeq (sFrz 5) (sSeq (sSet 9 (eNew (nLc (iSeq (eVar 5)) [20] (gN 20) tYes (eLst [(eBin ixD (eVar 20) (eC (.int 0))), (eCall (un1 listD) [(eBin ixD (eVar 20) (eC (.int 1)))])])))) (sSeq (sSet 10 (eCall reprL [(eVar 9)])) (sSeq (sSet 11 (eCall F__law_try [(eVar 9)])) (sSeq (sIf (tOr (tVal (eBin neD (eVar 11) (eCall (un1 tupD) [(eVar 5)]))) (tOr (tNot (tTru (eCall (F__law_tuples 6) [(eVar 11)]))) (tOr (tVal (eBin neD (eCall reprL [(eVar 9)]) (eVar 10))) (tVal (eBin neD (eCall F__law_try [(eCall (un1 tupD) [(eVar 5)])]) (eCall (un1 tupD) [(eVar 5)])))))) (sRet (eC (.bl false))) sNext) (sSeq (sUnp [12, 13, 14] (eCall F__law_centre [(eVar 5)])) (sSeq (sIf (tOr (tVal (eBin neD (eCall F_total_of [(eVar 9)]) (eVar 12))) (tOr (tVal (eBin neD (eCall F_moment_of [(eVar 9)]) (eTup [(eVar 13), (eVar 14)]))) (tVal (eBin neD (eCall reprL [(eVar 9)]) (eVar 10))))) (sRet (eC (.bl false))) sNext) (sSeq (sSet 15 (eCall F__law_middle [(eVar 9)])) (sSeq (sIf (tVal (eBin eqD (eVar 12) (eTup [(eC (.int 0)), (eC (.int 1))]))) (sIf (tOr (tVal (eBin neD (eVar 15) (eLst [(eC (.str "none")), (eVar 2)]))) (tVal (eBin neD (eCall F__law_together [(eVar 5)]) (eLst [(eC (.str "none")), (eVar 2)])))) (sRet (eC (.bl false))) sNext) (sSeq (sIf (tOr (tVal (eBin neD (eVar 15) (eTup [(eCall F__law_over [(eVar 13), (eVar 12)]), (eCall F__law_over [(eVar 14), (eVar 12)])]))) (tVal (eBin neD (eCall F__law_together [(eVar 9)]) (eTup [(eTup [(eVar 12), (eVar 15)])])))) (sRet (eC (.bl false))) sNext) (sIf (tOr (tVal (eBin neD (eCall F_total_of [(eCall F_one_load [(eVar 5)])]) (eVar 12))) (tOr (tVal (eBin neD (eCall F_moment_of [(eCall F_one_load [(eVar 5)])]) (eTup [(eVar 13), (eVar 14)]))) (tNot (tTru (eCall (F__law_tuples 6) [(eCall F_one_load [(eVar 9)])]))))) (sRet (eC (.bl false))) sNext))) (sSeq (sSet 16 (eNew (nLc (iRng (eC (.int 0)) (eVar 2)) [17] (gN 17) tYes (eBin ixD (eVar 5) (eBin subD (eBin subD (eVar 2) (eC (.int 1))) (eVar 17)))))) (sSeq (sIf (tOr (tVal (eBin neD (eCall F_total_of [(eVar 16)]) (eVar 12))) (tOr (tVal (eBin neD (eCall F_moment_of [(eVar 16)]) (eTup [(eVar 13), (eVar 14)]))) (tVal (eBin neD (eCall F__law_middle [(eVar 16)]) (eVar 15))))) (sRet (eC (.bl false))) sNext) (sSeq (sFor (iRng (eC (.int 0)) (eVar 2)) (gN 17) B_law_1) (sSeq (sIf (tNot (tTru (eCall F__law_refused [(eVar 1), (eVar 5)]))) (sRet (eC (.bl false))) sNext) (sSeq (sSet 19 (eNew (nLc (iRng (eC (.int 0)) (eC (.int 9))) [6] (gN 6) tYes (eTup [(eTup [(eC (.int 1)), (eC (.int 1))]), (eTup [(eTup [(eVar 6), (eC (.int 1))]), (eTup [(eC (.int 0)), (eC (.int 1))])])])))) (sSeq (sIf (tOr (tVal (eBin neD (eCall F__law_try [(eVar 19)]) (eLst [(eC (.int 0)), (eC (.str "many"))]))) (tOr (tVal (eBin neD (eCall F__law_try [(eSlice (eVar 19) (some (eC (.int 1))) none)]) (eCall (un1 tupD) [(eSlice (eVar 19) (some (eC (.int 1))) none)]))) (tVal (eBin neD (eCall F__law_try [(eC (.str ""))]) (eLst [(eC (.int 0)), (eC (.str "many"))]))))) (sRet (eC (.bl false))) sNext) (sRet (eAnd (eBin eqD (eCall F__law_try [(eC .non)]) (eLst [(eC (.int 0)), (eC (.str "many"))])) (eAnd (eBin eqD (eCall F__law_try [(eLst [])]) (eTup [])) (eAnd (eBin eqD (eCall F_total_of [(eTup [])]) (eTup [(eC (.int 0)), (eC (.int 1))])) (eBin eqD (eCall F_moment_of [(eLst [])]) (eTup [(eTup [(eC (.int 0)), (eC (.int 1))]), (eTup [(eC (.int 0)), (eC (.int 1))])])))))))))))))))))))))))))))
theorem has_law (T : Tx K mg cm) (G__law_arm : FL.Has P w K mg base cm "_law_arm" 5 ["hand"] [[]] [] 1 F__law_arm) (G__law_centre : FL.Has P w K mg base cm "_law_centre" 6 ["loads"] [[]] [] 1 F__law_centre) (G__law_coordinate : FL.Has P w K mg base cm "_law_coordinate" 5 ["hand"] [[]] [] 1 F__law_coordinate) (G__law_hand : FL.Has P w K mg base cm "_law_hand" 2 ["script"] [[]] [] 1 F__law_hand) (G__law_middle : FL.Has P w K mg base cm "_law_middle" 7 ["loads"] [[]] [] 1 F__law_middle) (G__law_near : FL.Has P w K mg base cm "_law_near" 4 ["hand"] [[]] [] 1 F__law_near) (G__law_over : FL.Has P w K mg base cm "_law_over" 4 ["one", "other"] [[]] [] 2 F__law_over) (G__law_plus : FL.Has P w K mg base cm "_law_plus" 4 ["one", "other"] [[]] [] 2 F__law_plus) (G__law_refused : FL.Has P w K mg base cm "_law_refused" 8 ["hand", "loads"] [[]] [] 2 F__law_refused) (G__law_take : FL.Has P w K mg base cm "_law_take" 3 ["hand", "many"] [[]] [] 2 F__law_take) (G__law_times : FL.Has P w K mg base cm "_law_times" 4 ["one", "other"] [[]] [] 2 F__law_times) (G__law_together : FL.Has P w K mg base cm "_law_together" 8 ["loads"] [[]] [] 1 F__law_together) (G__law_try : FL.Has P w K mg base cm "_law_try" 7 ["loads"] [[]] [] 1 F__law_try) (G__law_tuples : ∀ n, FL.Has P w K mg base cm "_law_tuples" (n + 2) ["thing"] [[]] [] 1 (F__law_tuples n)) (G_moment_of : FL.Has P w K mg base cm "moment_of" 5 ["loads"] [[]] [] 1 F_moment_of) (G_one_load : FL.Has P w K mg base cm "one_load" 7 ["loads"] [[]] [] 1 F_one_load) (G_total_of : FL.Has P w K mg base cm "total_of" 5 ["loads"] [[]] [] 1 F_total_of) (f : Addr) (fd : FuncData) (at_ : FL.DefAt K mg "law" s_law [] f fd) : FL.TopOk P w K mg base f fd "script" (FL.spX K cm 1 F_law) :=
  FL.top_of at_.F sc_law (by decide) ⟨rfl, by decide, by decide⟩ (k := 8) (fun cdv s H E q hr => by have tk : L2.Takes (L2.cxOf (L2.CX P w) P w K mg base N_law "law" (L2.defScope s_law) f cdv callerA [] s H E) (fun cls d _ H' => E cls d H') := L2.takes_of rfl rfl rfl rfl; have pa : PassesOwn (model P w) (L2.cxOf (L2.CX P w) P w K mg base N_law "law" (L2.defScope s_law) f cdv callerA [] s H E).A (L2.cxOf (L2.CX P w) P w K mg base N_law "law" (L2.defScope s_law) f cdv callerA [] s H E).env (L2.cxOf (L2.CX P w) P w K mg base N_law "law" (L2.defScope s_law) f cdv callerA [] s H E).xe := L2.passes_of rfl; exact (FL.pssx_cons (FL.psx_set sc_law.nd (i := 1) rfl (by first | exact Or.inl rfl | exact Or.inr rfl) (FL.px_has G__law_hand (hr.mono (by decide)) tk (by rfl) (FL.pax_cons (FL.px_var 0) FL.pax_nil))) (FL.pssx_cons (FL.psx_set sc_law.nd (i := 2) rfl (by first | exact Or.inl rfl | exact Or.inr rfl) (FL.px_has G__law_take (hr.mono (by decide)) tk (by rfl) (FL.pax_cons (FL.px_var 1) (FL.pax_cons FL.px_int FL.pax_nil)))) (FL.pssx_cons (FL.psx_set sc_law.nd (i := 3) rfl (by first | exact Or.inl rfl | exact Or.inr rfl) (FL.px_cmp (L2.op_eqD (FL.hu64 hr)) FL.eq_ok (FL.px_has G__law_take (hr.mono (by decide)) tk (by rfl) (FL.pax_cons (FL.px_var 1) (FL.pax_cons FL.px_int FL.pax_nil))) FL.px_int (L2.nomark _))) (FL.pssx_cons (FL.psx_set sc_law.nd (i := 4) rfl (by first | exact Or.inl rfl | exact Or.inr rfl) (FL.px_cmp (L2.op_eqD (FL.hu64 hr)) FL.eq_ok (FL.px_has G__law_take (hr.mono (by decide)) tk (by rfl) (FL.pax_cons (FL.px_var 1) (FL.pax_cons FL.px_int FL.pax_nil))) FL.px_int (L2.nomark _))) (FL.pssx_cons (FL.psx_own sc_law.nd (i := 5) rfl (by first | exact Or.inl rfl | exact Or.inr rfl) (FL.pnx_lst FL.pax_nil)) (FL.pssx_cons (FL.psx_for pa rfl (FL.pix_range1 (by rfl) T.n_range (FL.px_var 2)) (L2.pg_name (i := 6) sc_law.nd rfl (by first | exact Or.inl rfl | exact Or.inr rfl)) (FL.tgx_n 6) (FL.pssx_cons (FL.psx_set sc_law.nd (i := 7) rfl (by first | exact Or.inl rfl | exact Or.inr rfl) (FL.px_if (FL.PWX.pt (FL.pwx_or (FL.ptx_tru (FL.px_var 4)) (FL.pwx_or1 (FL.ptx_cmp (L2.op_eqD (FL.hu64 hr)) FL.eq_ok (FL.px_has G__law_take (hr.mono (by decide)) tk (by rfl) (FL.pax_cons (FL.px_var 1) (FL.pax_cons FL.px_int FL.pax_nil))) FL.px_int (L2.nomark _))))) (FL.px_tup (FL.pax_cons FL.px_int (FL.pax_cons FL.px_int FL.pax_nil))) (FL.px_has G__law_arm (hr.mono (by decide)) tk (by rfl) (FL.pax_cons (FL.px_var 1) FL.pax_nil)))) (FL.pssx_cons (FL.psx_set sc_law.nd (i := 8) rfl (by first | exact Or.inl rfl | exact Or.inr rfl) (FL.px_if (FL.ptx_tru (FL.px_var 3)) (FL.px_tup (FL.pax_cons (FL.px_has G__law_coordinate (hr.mono (by decide)) tk (by rfl) (FL.pax_cons (FL.px_var 1) FL.pax_nil)) (FL.pax_cons (FL.px_has G__law_coordinate (hr.mono (by decide)) tk (by rfl) (FL.pax_cons (FL.px_var 1) FL.pax_nil)) FL.pax_nil))) (FL.px_tup (FL.pax_cons (FL.px_has G__law_near (hr.mono (by decide)) tk (by rfl) (FL.pax_cons (FL.px_var 1) FL.pax_nil)) (FL.pax_cons (FL.px_has G__law_near (hr.mono (by decide)) tk (by rfl) (FL.pax_cons (FL.px_var 1) FL.pax_nil)) FL.pax_nil))))) (FL.pssx_one (FL.psx_appE 5 (FL.px_tup (FL.pax_cons (FL.px_var 7) (FL.pax_cons (FL.px_var 8) FL.pax_nil)))))))) (FL.pssx_frz 5 (FL.pssx_cons (FL.psx_setLc (i := 9) (own := [("load", 20)]) rfl sc_law.nd rfl rfl (L2.sw_true rfl rfl rfl (by decide +kernel)) (FL.pix_any (FL.px_var 5)) (L2.blkOk_by (N := N_law) (sc := L2.defScope s_law) (by decide +kernel)) rfl (fun _ _ _ _ _ => (L2.pg_name (i := 20) sc_law.nd rfl (by first | exact Or.inl rfl | exact Or.inr rfl))) (FL.tgx_n 20) (fun _ _ _ _ _ => FL.ptsx0) (fun _ _ _ _ _ => (FL.px_lst (FL.pax_cons (FL.px_ix (FL.px_var 20) FL.px_int) (FL.pax_cons (FL.px_callTy L2.call_list_of FL.list_ok (by rfl) T.n_list FL.bt_list (FL.pax_cons (FL.px_ix (FL.px_var 20) FL.px_int) FL.pax_nil)) FL.pax_nil))))) (FL.pssx_cons (FL.psx_set sc_law.nd (i := 10) rfl (by first | exact Or.inl rfl | exact Or.inr rfl) (FL.px_repr (by rfl) (FL.hu64 hr) (by rfl) T.n_repr (FL.px_var 9))) (FL.pssx_cons (FL.psx_set sc_law.nd (i := 11) rfl (by first | exact Or.inl rfl | exact Or.inr rfl) (FL.px_has G__law_try (hr.mono (by decide)) tk (by rfl) (FL.pax_cons (FL.px_var 9) FL.pax_nil))) (FL.pssx_cons (FL.psx_if (FL.PWX.pt (FL.pwx_or (FL.ptx_cmp (L2.op_neD (FL.hu64 hr)) FL.ne_ok (FL.px_var 11) (FL.px_callTy L2.call_tuple_of FL.tuple_ok (by rfl) T.n_tuple FL.bt_tuple (FL.pax_cons (FL.px_var 5) FL.pax_nil)) (L2.nomark _)) (FL.pwx_or (FL.ptx_not (FL.ptx_tru (FL.px_has (G__law_tuples 6) (hr.mono (by decide)) tk (by rfl) (FL.pax_cons (FL.px_var 11) FL.pax_nil)))) (FL.pwx_or (FL.ptx_cmp (L2.op_neD (FL.hu64 hr)) FL.ne_ok (FL.px_repr (by rfl) (FL.hu64 hr) (by rfl) T.n_repr (FL.px_var 9)) (FL.px_var 10) (L2.nomark _)) (FL.pwx_or1 (FL.ptx_cmp (L2.op_neD (FL.hu64 hr)) FL.ne_ok (FL.px_has G__law_try (hr.mono (by decide)) tk (by rfl) (FL.pax_cons (FL.px_callTy L2.call_tuple_of FL.tuple_ok (by rfl) T.n_tuple FL.bt_tuple (FL.pax_cons (FL.px_var 5) FL.pax_nil)) FL.pax_nil)) (FL.px_callTy L2.call_tuple_of FL.tuple_ok (by rfl) T.n_tuple FL.bt_tuple (FL.pax_cons (FL.px_var 5) FL.pax_nil)) (L2.nomark _))))))) (FL.pssx_one (FL.psx_ret FL.px_bl)) FL.pssx_nil) (FL.pssx_cons (FL.psx_unp (is := [12, 13, 14]) (FL.px_has G__law_centre (hr.mono (by decide)) tk (by rfl) (FL.pax_cons (FL.px_var 5) FL.pax_nil)) (L2.pg_tup rfl (L2.pgs_cons (L2.pg_name (i := 12) sc_law.nd rfl (by first | exact Or.inl rfl | exact Or.inr rfl)) (L2.pgs_cons (L2.pg_name (i := 13) sc_law.nd rfl (by first | exact Or.inl rfl | exact Or.inr rfl)) (L2.pgs_cons (L2.pg_name (i := 14) sc_law.nd rfl (by first | exact Or.inl rfl | exact Or.inr rfl)) L2.pgs_nil))))) (FL.pssx_cons (FL.psx_if (FL.PWX.pt (FL.pwx_or (FL.ptx_cmp (L2.op_neD (FL.hu64 hr)) FL.ne_ok (FL.px_has G_total_of (hr.mono (by decide)) tk (by rfl) (FL.pax_cons (FL.px_var 9) FL.pax_nil)) (FL.px_var 12) (L2.nomark _)) (FL.pwx_or (FL.ptx_cmp (L2.op_neD (FL.hu64 hr)) FL.ne_ok (FL.px_has G_moment_of (hr.mono (by decide)) tk (by rfl) (FL.pax_cons (FL.px_var 9) FL.pax_nil)) (FL.px_tup (FL.pax_cons (FL.px_var 13) (FL.pax_cons (FL.px_var 14) FL.pax_nil))) (L2.nomark _)) (FL.pwx_or1 (FL.ptx_cmp (L2.op_neD (FL.hu64 hr)) FL.ne_ok (FL.px_repr (by rfl) (FL.hu64 hr) (by rfl) T.n_repr (FL.px_var 9)) (FL.px_var 10) (L2.nomark _)))))) (FL.pssx_one (FL.psx_ret FL.px_bl)) FL.pssx_nil) (FL.pssx_cons (FL.psx_set sc_law.nd (i := 15) rfl (by first | exact Or.inl rfl | exact Or.inr rfl) (FL.px_has G__law_middle (hr.mono (by decide)) tk (by rfl) (FL.pax_cons (FL.px_var 9) FL.pax_nil))) (FL.pssx_cons (FL.psx_if (FL.ptx_cmp (L2.op_eqD (FL.hu64 hr)) FL.eq_ok (FL.px_var 12) (FL.px_tup (FL.pax_cons FL.px_int (FL.pax_cons FL.px_int FL.pax_nil))) (L2.nomark _)) (FL.pssx_one (FL.psx_if (FL.PWX.pt (FL.pwx_or (FL.ptx_cmp (L2.op_neD (FL.hu64 hr)) FL.ne_ok (FL.px_var 15) (FL.px_lst (FL.pax_cons FL.px_str (FL.pax_cons (FL.px_var 2) FL.pax_nil))) (L2.nomark _)) (FL.pwx_or1 (FL.ptx_cmp (L2.op_neD (FL.hu64 hr)) FL.ne_ok (FL.px_has G__law_together (hr.mono (by decide)) tk (by rfl) (FL.pax_cons (FL.px_var 5) FL.pax_nil)) (FL.px_lst (FL.pax_cons FL.px_str (FL.pax_cons (FL.px_var 2) FL.pax_nil))) (L2.nomark _))))) (FL.pssx_one (FL.psx_ret FL.px_bl)) FL.pssx_nil)) (FL.pssx_cons (FL.psx_if (FL.PWX.pt (FL.pwx_or (FL.ptx_cmp (L2.op_neD (FL.hu64 hr)) FL.ne_ok (FL.px_var 15) (FL.px_tup (FL.pax_cons (FL.px_has G__law_over (hr.mono (by decide)) tk (by rfl) (FL.pax_cons (FL.px_var 13) (FL.pax_cons (FL.px_var 12) FL.pax_nil))) (FL.pax_cons (FL.px_has G__law_over (hr.mono (by decide)) tk (by rfl) (FL.pax_cons (FL.px_var 14) (FL.pax_cons (FL.px_var 12) FL.pax_nil))) FL.pax_nil))) (L2.nomark _)) (FL.pwx_or1 (FL.ptx_cmp (L2.op_neD (FL.hu64 hr)) FL.ne_ok (FL.px_has G__law_together (hr.mono (by decide)) tk (by rfl) (FL.pax_cons (FL.px_var 9) FL.pax_nil)) (FL.px_tup (FL.pax_cons (FL.px_tup (FL.pax_cons (FL.px_var 12) (FL.pax_cons (FL.px_var 15) FL.pax_nil))) FL.pax_nil)) (L2.nomark _))))) (FL.pssx_one (FL.psx_ret FL.px_bl)) FL.pssx_nil) (FL.pssx_one (FL.psx_if (FL.PWX.pt (FL.pwx_or (FL.ptx_cmp (L2.op_neD (FL.hu64 hr)) FL.ne_ok (FL.px_has G_total_of (hr.mono (by decide)) tk (by rfl) (FL.pax_cons (FL.px_has G_one_load (hr.mono (by decide)) tk (by rfl) (FL.pax_cons (FL.px_var 5) FL.pax_nil)) FL.pax_nil)) (FL.px_var 12) (L2.nomark _)) (FL.pwx_or (FL.ptx_cmp (L2.op_neD (FL.hu64 hr)) FL.ne_ok (FL.px_has G_moment_of (hr.mono (by decide)) tk (by rfl) (FL.pax_cons (FL.px_has G_one_load (hr.mono (by decide)) tk (by rfl) (FL.pax_cons (FL.px_var 5) FL.pax_nil)) FL.pax_nil)) (FL.px_tup (FL.pax_cons (FL.px_var 13) (FL.pax_cons (FL.px_var 14) FL.pax_nil))) (L2.nomark _)) (FL.pwx_or1 (FL.ptx_not (FL.ptx_tru (FL.px_has (G__law_tuples 6) (hr.mono (by decide)) tk (by rfl) (FL.pax_cons (FL.px_has G_one_load (hr.mono (by decide)) tk (by rfl) (FL.pax_cons (FL.px_var 9) FL.pax_nil)) FL.pax_nil)))))))) (FL.pssx_one (FL.psx_ret FL.px_bl)) FL.pssx_nil)))) (FL.pssx_cons (FL.psx_setLc (i := 16) (own := [("at", 17)]) rfl sc_law.nd rfl rfl (L2.sw_true rfl rfl rfl (by decide +kernel)) (FL.pix_range1 (by rfl) T.n_range (FL.px_var 2)) (L2.blkOk_by (N := N_law) (sc := L2.defScope s_law) (by decide +kernel)) rfl (fun _ _ _ _ _ => (L2.pg_name (i := 17) sc_law.nd rfl (by first | exact Or.inl rfl | exact Or.inr rfl))) (FL.tgx_n 17) (fun _ _ _ _ _ => FL.ptsx0) (fun _ _ _ _ _ => (FL.px_ix (FL.px_var 5) (FL.px_bin L2.op_sub FL.sub_ok (FL.px_bin L2.op_sub FL.sub_ok (FL.px_var 2) FL.px_int) (FL.px_var 17))))) (FL.pssx_cons (FL.psx_if (FL.PWX.pt (FL.pwx_or (FL.ptx_cmp (L2.op_neD (FL.hu64 hr)) FL.ne_ok (FL.px_has G_total_of (hr.mono (by decide)) tk (by rfl) (FL.pax_cons (FL.px_var 16) FL.pax_nil)) (FL.px_var 12) (L2.nomark _)) (FL.pwx_or (FL.ptx_cmp (L2.op_neD (FL.hu64 hr)) FL.ne_ok (FL.px_has G_moment_of (hr.mono (by decide)) tk (by rfl) (FL.pax_cons (FL.px_var 16) FL.pax_nil)) (FL.px_tup (FL.pax_cons (FL.px_var 13) (FL.pax_cons (FL.px_var 14) FL.pax_nil))) (L2.nomark _)) (FL.pwx_or1 (FL.ptx_cmp (L2.op_neD (FL.hu64 hr)) FL.ne_ok (FL.px_has G__law_middle (hr.mono (by decide)) tk (by rfl) (FL.pax_cons (FL.px_var 16) FL.pax_nil)) (FL.px_var 15) (L2.nomark _)))))) (FL.pssx_one (FL.psx_ret FL.px_bl)) FL.pssx_nil) (FL.pssx_cons (FL.psx_for pa rfl (FL.pix_range1 (by rfl) T.n_range (FL.px_var 2)) (L2.pg_name (i := 17) sc_law.nd rfl (by first | exact Or.inl rfl | exact Or.inr rfl)) (FL.tgx_n 17) (FL.pssx_cons (FL.psx_set sc_law.nd (i := 18) rfl (by first | exact Or.inl rfl | exact Or.inr rfl) (FL.px_bin FL.op_addA FL.add_ok (FL.px_slice (FL.px_var 5) FL.pox_none (FL.pox_some (FL.px_var 17))) (FL.px_slice (FL.px_var 5) (FL.pox_some (FL.px_bin FL.op_addA FL.add_ok (FL.px_var 17) FL.px_int)) FL.pox_none))) (FL.pssx_cons (FL.psx_unp (is := [7, 8]) (FL.px_ix (FL.px_var 5) (FL.px_var 17)) (L2.pg_tup rfl (L2.pgs_cons (L2.pg_name (i := 7) sc_law.nd rfl (by first | exact Or.inl rfl | exact Or.inr rfl)) (L2.pgs_cons (L2.pg_name (i := 8) sc_law.nd rfl (by first | exact Or.inl rfl | exact Or.inr rfl)) L2.pgs_nil)))) (FL.pssx_cons (FL.psx_if (FL.ptx_cmp (L2.op_neD (FL.hu64 hr)) FL.ne_ok (FL.px_has G__law_plus (hr.mono (by decide)) tk (by rfl) (FL.pax_cons (FL.px_has G_total_of (hr.mono (by decide)) tk (by rfl) (FL.pax_cons (FL.px_var 18) FL.pax_nil)) (FL.pax_cons (FL.px_var 7) FL.pax_nil))) (FL.px_var 12) (L2.nomark _)) (FL.pssx_one (FL.psx_ret FL.px_bl)) FL.pssx_nil) (FL.pssx_one (FL.psx_if (FL.ptx_cmp (L2.op_neD (FL.hu64 hr)) FL.ne_ok (FL.px_has G__law_plus (hr.mono (by decide)) tk (by rfl) (FL.pax_cons (FL.px_ix (FL.px_has G_moment_of (hr.mono (by decide)) tk (by rfl) (FL.pax_cons (FL.px_var 18) FL.pax_nil)) FL.px_int) (FL.pax_cons (FL.px_has G__law_times (hr.mono (by decide)) tk (by rfl) (FL.pax_cons (FL.px_var 7) (FL.pax_cons (FL.px_ix (FL.px_var 8) FL.px_int) FL.pax_nil))) FL.pax_nil))) (FL.px_var 14) (L2.nomark _)) (FL.pssx_one (FL.psx_ret FL.px_bl)) FL.pssx_nil)))))) (FL.pssx_cons (FL.psx_if (FL.ptx_not (FL.ptx_tru (FL.px_has G__law_refused (hr.mono (by decide)) tk (by rfl) (FL.pax_cons (FL.px_var 1) (FL.pax_cons (FL.px_var 5) FL.pax_nil))))) (FL.pssx_one (FL.psx_ret FL.px_bl)) FL.pssx_nil) (FL.pssx_cons (FL.psx_setLc (i := 19) (own := [("turn", 6)]) rfl sc_law.nd rfl rfl (L2.sw_true rfl rfl rfl (by decide +kernel)) (FL.pix_range1 (by rfl) T.n_range FL.px_int) (L2.blkOk_by (N := N_law) (sc := L2.defScope s_law) (by decide +kernel)) rfl (fun _ _ _ _ _ => (L2.pg_name (i := 6) sc_law.nd rfl (by first | exact Or.inl rfl | exact Or.inr rfl))) (FL.tgx_n 6) (fun _ _ _ _ _ => FL.ptsx0) (fun _ _ _ _ _ => (FL.px_tup (FL.pax_cons (FL.px_tup (FL.pax_cons FL.px_int (FL.pax_cons FL.px_int FL.pax_nil))) (FL.pax_cons (FL.px_tup (FL.pax_cons (FL.px_tup (FL.pax_cons (FL.px_var 6) (FL.pax_cons FL.px_int FL.pax_nil))) (FL.pax_cons (FL.px_tup (FL.pax_cons FL.px_int (FL.pax_cons FL.px_int FL.pax_nil))) FL.pax_nil))) FL.pax_nil))))) (FL.pssx_cons (FL.psx_if (FL.PWX.pt (FL.pwx_or (FL.ptx_cmp (L2.op_neD (FL.hu64 hr)) FL.ne_ok (FL.px_has G__law_try (hr.mono (by decide)) tk (by rfl) (FL.pax_cons (FL.px_var 19) FL.pax_nil)) (FL.px_lst (FL.pax_cons FL.px_int (FL.pax_cons FL.px_str FL.pax_nil))) (L2.nomark _)) (FL.pwx_or (FL.ptx_cmp (L2.op_neD (FL.hu64 hr)) FL.ne_ok (FL.px_has G__law_try (hr.mono (by decide)) tk (by rfl) (FL.pax_cons (FL.px_slice (FL.px_var 19) (FL.pox_some FL.px_int) FL.pox_none) FL.pax_nil)) (FL.px_callTy L2.call_tuple_of FL.tuple_ok (by rfl) T.n_tuple FL.bt_tuple (FL.pax_cons (FL.px_slice (FL.px_var 19) (FL.pox_some FL.px_int) FL.pox_none) FL.pax_nil)) (L2.nomark _)) (FL.pwx_or1 (FL.ptx_cmp (L2.op_neD (FL.hu64 hr)) FL.ne_ok (FL.px_has G__law_try (hr.mono (by decide)) tk (by rfl) (FL.pax_cons FL.px_str FL.pax_nil)) (FL.px_lst (FL.pax_cons FL.px_int (FL.pax_cons FL.px_str FL.pax_nil))) (L2.nomark _)))))) (FL.pssx_one (FL.psx_ret FL.px_bl)) FL.pssx_nil) (FL.pssx_one (FL.psx_ret (FL.px_and (FL.px_cmp (L2.op_eqD (FL.hu64 hr)) FL.eq_ok (FL.px_has G__law_try (hr.mono (by decide)) tk (by rfl) (FL.pax_cons FL.px_non FL.pax_nil)) (FL.px_lst (FL.pax_cons FL.px_int (FL.pax_cons FL.px_str FL.pax_nil))) (L2.nomark _)) (FL.px_and (FL.px_cmp (L2.op_eqD (FL.hu64 hr)) FL.eq_ok (FL.px_has G__law_try (hr.mono (by decide)) tk (by rfl) (FL.pax_cons (FL.px_lst FL.pax_nil) FL.pax_nil)) (FL.px_tup FL.pax_nil) (L2.nomark _)) (FL.px_and (FL.px_cmp (L2.op_eqD (FL.hu64 hr)) FL.eq_ok (FL.px_has G_total_of (hr.mono (by decide)) tk (by rfl) (FL.pax_cons (FL.px_tup FL.pax_nil) FL.pax_nil)) (FL.px_tup (FL.pax_cons FL.px_int (FL.pax_cons FL.px_int FL.pax_nil))) (L2.nomark _)) (FL.px_one (FL.px_cmp (L2.op_eqD (FL.hu64 hr)) FL.eq_ok (FL.px_has G_moment_of (hr.mono (by decide)) tk (by rfl) (FL.pax_cons (FL.px_lst FL.pax_nil) FL.pax_nil)) (FL.px_tup (FL.pax_cons (FL.px_tup (FL.pax_cons FL.px_int (FL.pax_cons FL.px_int FL.pax_nil))) (FL.pax_cons (FL.px_tup (FL.pax_cons FL.px_int (FL.pax_cons FL.px_int FL.pax_nil))) FL.pax_nil))) (L2.nomark _))))))))))))))))))))))))))))))
theorem has_all (T : Tx K mg cm) : ∀ (f : Addr) (fd : FuncData), FL.DefAt K mg "law" s_law [] f fd → FL.TopOk P w K mg base f fd "script" (FL.spX K cm 1 F_law) := by
  have G__law_hand := has__law_hand (P := P) (w := w) (base := base) T 
  have G__law_mixed := has__law_mixed (P := P) (w := w) (base := base) T 
  have G__law_take := has__law_take (P := P) (w := w) (base := base) T G__law_mixed
  have G_is_whole := has_is_whole (P := P) (w := w) (base := base) T 
  have G_is_ratio := has_is_ratio (P := P) (w := w) (base := base) T G_is_whole
  have G_is_small := has_is_small (P := P) (w := w) (base := base) T G_is_ratio
  have G_is_weight := has_is_weight (P := P) (w := w) (base := base) T G_is_small
  have G_is_place := has_is_place (P := P) (w := w) (base := base) T G_is_small
  have G_check_loads := has_check_loads (P := P) (w := w) (base := base) T G_is_place G_is_weight
  have G__law_try := has__law_try (P := P) (w := w) (base := base) T G_check_loads
  have G__law_gcd := has__law_gcd (P := P) (w := w) (base := base) T 
  have G__law_ratio := has__law_ratio (P := P) (w := w) (base := base) T G__law_gcd
  have G__law_plus := has__law_plus (P := P) (w := w) (base := base) T G__law_ratio
  have G__law_sum := has__law_sum (P := P) (w := w) (base := base) T G__law_plus
  have G__law_times := has__law_times (P := P) (w := w) (base := base) T G__law_ratio
  have G__law_centre := has__law_centre (P := P) (w := w) (base := base) T G__law_sum G__law_times
  have G__lowest := has__lowest (P := P) (w := w) (base := base) T 
  have G_plus := has_plus (P := P) (w := w) (base := base) T G__lowest
  have G_sum_of := has_sum_of (P := P) (w := w) (base := base) T G_plus
  have G_total_of := has_total_of (P := P) (w := w) (base := base) T G_sum_of
  have G_times := has_times (P := P) (w := w) (base := base) T G__lowest
  have G_moment_of := has_moment_of (P := P) (w := w) (base := base) T G_sum_of G_times
  have G_over := has_over (P := P) (w := w) (base := base) T G__lowest
  have G_centre_of := has_centre_of (P := P) (w := w) (base := base) T G_moment_of G_over G_total_of
  have G__law_middle := has__law_middle (P := P) (w := w) (base := base) T G_centre_of
  have G__law_spoilt := has__law_spoilt (P := P) (w := w) (base := base) T G__law_take
  have G__law_refused := has__law_refused (P := P) (w := w) (base := base) T G__law_spoilt G__law_take G__law_try
  have G__law_bounded := has__law_bounded (P := P) (w := w) (base := base) T G__law_take
  have G__law_arm := has__law_arm (P := P) (w := w) (base := base) T G__law_bounded G__law_ratio G__law_take
  have G__law_tuples := has__law_tuples (P := P) (w := w) (base := base) T 
  have G__law_coordinate := has__law_coordinate (P := P) (w := w) (base := base) T G__law_bounded G__law_ratio G__law_take
  have G__law_near := has__law_near (P := P) (w := w) (base := base) T G__law_ratio G__law_take
  have G_one_load := has_one_load (P := P) (w := w) (base := base) T G_centre_of G_total_of
  have G__law_together := has__law_together (P := P) (w := w) (base := base) T G_one_load
  have G__law_over := has__law_over (P := P) (w := w) (base := base) T G__law_ratio
  have G_law := has_law (P := P) (w := w) (base := base) T G__law_arm G__law_centre G__law_coordinate G__law_hand G__law_middle G__law_near G__law_over G__law_plus G__law_refused G__law_take G__law_times G__law_together G__law_try G__law_tuples G_moment_of G_one_load G_total_of
  exact G_law
end
open L2 in
theorem all_mk {K : PySem.W.Frag} {h : Heap} {mg : Str → Option Value} (X : K.In h) (G : h.Ns mainGlobals mg)
    {t_SMALL : Tok}
    {a_ZERO : Addr} {ti_ZERO tj_ZERO : Tok} {dd_ZERO : Option Addr} {sl_ZERO : Array (Option Value)}
    {C_1 C_2 C_3 : Addr}
    {zf_1 zN_1 : Addr} {znm_1 zq_1 : Str} {zbs_1 zbm_1 : List Value} {zsn_1 : List Str} {zsub_1 : List Value} {zab_1 : Bool} {zcol_1 : Option Bool} {zdd_1 : Option Addr} {zm0_1 zm1_1 zm2_1 zm3_1 zm5_1 : Option Value} {zio_1 zkw_1 zdc_1 zpm_1 zcd_1 zct_1 : Value} {zid_1 zia_1 : Option Addr} {zis_1 : Array (Option Value)}
    {zf_2 zN_2 : Addr} {znm_2 zq_2 : Str} {zbs_2 zbm_2 : List Value} {zsn_2 : List Str} {zsub_2 : List Value} {zab_2 : Bool} {zcol_2 : Option Bool} {zdd_2 : Option Addr} {zm0_2 zm1_2 zm2_2 zm3_2 zm5_2 : Option Value} {zio_2 zkw_2 zdc_2 zpm_2 zcd_2 zct_2 : Value} {zid_2 zia_2 : Option Addr} {zis_2 : Array (Option Value)}
    {zf_3 zN_3 : Addr} {znm_3 zq_3 : Str} {zbs_3 zbm_3 : List Value} {zsn_3 : List Str} {zsub_3 : List Value} {zab_3 : Bool} {zcol_3 : Option Bool} {zdd_3 : Option Addr} {zm0_3 zm1_3 zm2_3 zm3_3 zm5_3 : Option Value} {zio_3 zkw_3 zdc_3 zpm_3 zcd_3 zct_3 : Value} {zid_3 zia_3 : Option Addr} {zis_3 : Array (Option Value)}
    {df_0 : Addr} {do_0 dk_0 dc_0 dp_0 dv_0 dt_0 : Value} {dd_0 da_0 : Option Addr} {ds_0 : Array (Option Value)}
    {df_1 : Addr} {do_1 dk_1 dc_1 dp_1 dv_1 dt_1 : Value} {dd_1 da_1 : Option Addr} {ds_1 : Array (Option Value)}
    {df_2 : Addr} {do_2 dk_2 dc_2 dp_2 dv_2 dt_2 : Value} {dd_2 da_2 : Option Addr} {ds_2 : Array (Option Value)}
    {df_3 : Addr} {do_3 dk_3 dc_3 dp_3 dv_3 dt_3 : Value} {dd_3 da_3 : Option Addr} {ds_3 : Array (Option Value)}
    {dT_3 : Addr} {dO_3 : Obj} {dI_3 : List Value} {dn_3 : Nat}
    {df_4 : Addr} {do_4 dk_4 dc_4 dp_4 dv_4 dt_4 : Value} {dd_4 da_4 : Option Addr} {ds_4 : Array (Option Value)}
    {df_5 : Addr} {do_5 dk_5 dc_5 dp_5 dv_5 dt_5 : Value} {dd_5 da_5 : Option Addr} {ds_5 : Array (Option Value)}
    {df_6 : Addr} {do_6 dk_6 dc_6 dp_6 dv_6 dt_6 : Value} {dd_6 da_6 : Option Addr} {ds_6 : Array (Option Value)}
    {df_7 : Addr} {do_7 dk_7 dc_7 dp_7 dv_7 dt_7 : Value} {dd_7 da_7 : Option Addr} {ds_7 : Array (Option Value)}
    {df_8 : Addr} {do_8 dk_8 dc_8 dp_8 dv_8 dt_8 : Value} {dd_8 da_8 : Option Addr} {ds_8 : Array (Option Value)}
    {df_9 : Addr} {do_9 dk_9 dc_9 dp_9 dv_9 dt_9 : Value} {dd_9 da_9 : Option Addr} {ds_9 : Array (Option Value)}
    {df_10 : Addr} {do_10 dk_10 dc_10 dp_10 dv_10 dt_10 : Value} {dd_10 da_10 : Option Addr} {ds_10 : Array (Option Value)}
    {df_11 : Addr} {do_11 dk_11 dc_11 dp_11 dv_11 dt_11 : Value} {dd_11 da_11 : Option Addr} {ds_11 : Array (Option Value)}
    {df_12 : Addr} {do_12 dk_12 dc_12 dp_12 dv_12 dt_12 : Value} {dd_12 da_12 : Option Addr} {ds_12 : Array (Option Value)}
    {df_13 : Addr} {do_13 dk_13 dc_13 dp_13 dv_13 dt_13 : Value} {dd_13 da_13 : Option Addr} {ds_13 : Array (Option Value)}
    {df_14 : Addr} {do_14 dk_14 dc_14 dp_14 dv_14 dt_14 : Value} {dd_14 da_14 : Option Addr} {ds_14 : Array (Option Value)}
    {df_15 : Addr} {do_15 dk_15 dc_15 dp_15 dv_15 dt_15 : Value} {dd_15 da_15 : Option Addr} {ds_15 : Array (Option Value)}
    {df_16 : Addr} {do_16 dk_16 dc_16 dp_16 dv_16 dt_16 : Value} {dd_16 da_16 : Option Addr} {ds_16 : Array (Option Value)}
    {df_17 : Addr} {do_17 dk_17 dc_17 dp_17 dv_17 dt_17 : Value} {dd_17 da_17 : Option Addr} {ds_17 : Array (Option Value)}
    {df_18 : Addr} {do_18 dk_18 dc_18 dp_18 dv_18 dt_18 : Value} {dd_18 da_18 : Option Addr} {ds_18 : Array (Option Value)}
    {df_19 : Addr} {do_19 dk_19 dc_19 dp_19 dv_19 dt_19 : Value} {dd_19 da_19 : Option Addr} {ds_19 : Array (Option Value)}
    {df_20 : Addr} {do_20 dk_20 dc_20 dp_20 dv_20 dt_20 : Value} {dd_20 da_20 : Option Addr} {ds_20 : Array (Option Value)}
    {df_21 : Addr} {do_21 dk_21 dc_21 dp_21 dv_21 dt_21 : Value} {dd_21 da_21 : Option Addr} {ds_21 : Array (Option Value)}
    {df_22 : Addr} {do_22 dk_22 dc_22 dp_22 dv_22 dt_22 : Value} {dd_22 da_22 : Option Addr} {ds_22 : Array (Option Value)}
    {df_23 : Addr} {do_23 dk_23 dc_23 dp_23 dv_23 dt_23 : Value} {dd_23 da_23 : Option Addr} {ds_23 : Array (Option Value)}
    {df_24 : Addr} {do_24 dk_24 dc_24 dp_24 dv_24 dt_24 : Value} {dd_24 da_24 : Option Addr} {ds_24 : Array (Option Value)}
    {df_25 : Addr} {do_25 dk_25 dc_25 dp_25 dv_25 dt_25 : Value} {dd_25 da_25 : Option Addr} {ds_25 : Array (Option Value)}
    {df_26 : Addr} {do_26 dk_26 dc_26 dp_26 dv_26 dt_26 : Value} {dd_26 da_26 : Option Addr} {ds_26 : Array (Option Value)}
    {df_27 : Addr} {do_27 dk_27 dc_27 dp_27 dv_27 dt_27 : Value} {dd_27 da_27 : Option Addr} {ds_27 : Array (Option Value)}
    {df_28 : Addr} {do_28 dk_28 dc_28 dp_28 dv_28 dt_28 : Value} {dd_28 da_28 : Option Addr} {ds_28 : Array (Option Value)}
    {df_29 : Addr} {do_29 dk_29 dc_29 dp_29 dv_29 dt_29 : Value} {dd_29 da_29 : Option Addr} {ds_29 : Array (Option Value)}
    {df_30 : Addr} {do_30 dk_30 dc_30 dp_30 dv_30 dt_30 : Value} {dd_30 da_30 : Option Addr} {ds_30 : Array (Option Value)}
    {df_31 : Addr} {do_31 dk_31 dc_31 dp_31 dv_31 dt_31 : Value} {dd_31 da_31 : Option Addr} {ds_31 : Array (Option Value)}
    {df_32 : Addr} {do_32 dk_32 dc_32 dp_32 dv_32 dt_32 : Value} {dd_32 da_32 : Option Addr} {ds_32 : Array (Option Value)}
    {df_33 : Addr} {do_33 dk_33 dc_33 dp_33 dv_33 dt_33 : Value} {dd_33 da_33 : Option Addr} {ds_33 : Array (Option Value)}
    {df_34 : Addr} {do_34 dk_34 dc_34 dp_34 dv_34 dt_34 : Value} {dd_34 da_34 : Option Addr} {ds_34 : Array (Option Value)}
    {df_35 : Addr} {do_35 dk_35 dc_35 dp_35 dv_35 dt_35 : Value} {dd_35 da_35 : Option Addr} {ds_35 : Array (Option Value)}
    (hg_gcd : PySem.W.nsIn K mainGlobals "gcd" = some (some (.builtin "math.gcd")))
    (hn_abs : PySem.W.nsIn K mainGlobals "abs" = some none)
    (hn_bool : PySem.W.nsIn K mainGlobals "bool" = some none)
    (hn_enumerate : PySem.W.nsIn K mainGlobals "enumerate" = some none)
    (hn_int : PySem.W.nsIn K mainGlobals "int" = some none)
    (hn_isinstance : PySem.W.nsIn K mainGlobals "isinstance" = some none)
    (hn_len : PySem.W.nsIn K mainGlobals "len" = some none)
    (hn_list : PySem.W.nsIn K mainGlobals "list" = some none)
    (hn_range : PySem.W.nsIn K mainGlobals "range" = some none)
    (hn_repr : PySem.W.nsIn K mainGlobals "repr" = some none)
    (hn_tuple : PySem.W.nsIn K mainGlobals "tuple" = some none)
    (hc_SMALL : PySem.W.nsIn K mainGlobals "SMALL" = some (some (.int 1000000000000 t_SMALL)))
    (hc_ZERO : PySem.W.nsIn K mainGlobals "ZERO" = some (some (.ref a_ZERO)))
    (hd_ZERO : K.lookup a_ZERO = some ⟨.type "tuple", dd_ZERO, .seq #[.int 0 ti_ZERO, .int 1 tj_ZERO] 0, sl_ZERO⟩)
    (xa_1 : PySem.W.nsIn K mainGlobals "BadRatio" = some (some (.ref C_1)))
    (xe_1 : PySem.W.subIn K (.ref C_1) (.type "BaseException") = some true)
    (xt_1 : PySem.W.typeIn K (.ref C_1) = some (.type "type"))
    (xl_1 : K.lookup C_1 = some (excClassObj znm_1 zq_1 C_1 zN_1 zbs_1 zbm_1 true zsn_1 zsub_1 zab_1 zcol_1 zdd_1 zm0_1 zm1_1 zm2_1 zm3_1 zm5_1 "ValueError.__new__"))
    (xr_1 : PySem.HandSPX.refsVE zbm_1 = true)
    (xs_1 : PySem.W.findIn K (.ref C_1) "__setattr__" = some (some (.builtin "object.__setattr__")))
    (xk_1 : PySem.W.keepIn K (.ref C_1) = true)
    (xi_1 : PySem.W.findIn K (.ref C_1) "__init__" = some (some (.ref zf_1)))
    (xy_1 : PySem.W.typeIn K (.ref zf_1) = some (.type "function"))
    (xL_1 : K.lookup zf_1 = some ⟨zio_1, zid_1, .func (PySem.W.fnOf "__init__" "BadRatio.__init__" (L2.defArgs si_1) (L2.defBody si_1) (L2.defScope si_1) .none zkw_1 zdc_1 zpm_1 zia_1 zcd_1 zct_1), zis_1⟩)
    (xc_1 : PySem.W.codeIn K zcd_1 "BadRatio.__init__" = true)
    (xK_1 : PySem.W.keepIn K (.ref zf_1) = true)
    (xn_1_what : PySem.W.findIn K (.ref C_1) "what" = some none)
    (xa_2 : PySem.W.nsIn K mainGlobals "BadLoads" = some (some (.ref C_2)))
    (xe_2 : PySem.W.subIn K (.ref C_2) (.type "BaseException") = some true)
    (xt_2 : PySem.W.typeIn K (.ref C_2) = some (.type "type"))
    (xl_2 : K.lookup C_2 = some (excClassObj znm_2 zq_2 C_2 zN_2 zbs_2 zbm_2 true zsn_2 zsub_2 zab_2 zcol_2 zdd_2 zm0_2 zm1_2 zm2_2 zm3_2 zm5_2 "ValueError.__new__"))
    (xr_2 : PySem.HandSPX.refsVE zbm_2 = true)
    (xs_2 : PySem.W.findIn K (.ref C_2) "__setattr__" = some (some (.builtin "object.__setattr__")))
    (xk_2 : PySem.W.keepIn K (.ref C_2) = true)
    (xi_2 : PySem.W.findIn K (.ref C_2) "__init__" = some (some (.ref zf_2)))
    (xy_2 : PySem.W.typeIn K (.ref zf_2) = some (.type "function"))
    (xL_2 : K.lookup zf_2 = some ⟨zio_2, zid_2, .func (PySem.W.fnOf "__init__" "BadLoads.__init__" (L2.defArgs si_2) (L2.defBody si_2) (L2.defScope si_2) .none zkw_2 zdc_2 zpm_2 zia_2 zcd_2 zct_2), zis_2⟩)
    (xc_2 : PySem.W.codeIn K zcd_2 "BadLoads.__init__" = true)
    (xK_2 : PySem.W.keepIn K (.ref zf_2) = true)
    (xn_2_index : PySem.W.findIn K (.ref C_2) "index" = some none)
    (xn_2_what : PySem.W.findIn K (.ref C_2) "what" = some none)
    (xa_3 : PySem.W.nsIn K mainGlobals "NoCentre" = some (some (.ref C_3)))
    (xe_3 : PySem.W.subIn K (.ref C_3) (.type "BaseException") = some true)
    (xt_3 : PySem.W.typeIn K (.ref C_3) = some (.type "type"))
    (xl_3 : K.lookup C_3 = some (excClassObj znm_3 zq_3 C_3 zN_3 zbs_3 zbm_3 true zsn_3 zsub_3 zab_3 zcol_3 zdd_3 zm0_3 zm1_3 zm2_3 zm3_3 zm5_3 "ValueError.__new__"))
    (xr_3 : PySem.HandSPX.refsVE zbm_3 = true)
    (xs_3 : PySem.W.findIn K (.ref C_3) "__setattr__" = some (some (.builtin "object.__setattr__")))
    (xk_3 : PySem.W.keepIn K (.ref C_3) = true)
    (xi_3 : PySem.W.findIn K (.ref C_3) "__init__" = some (some (.ref zf_3)))
    (xy_3 : PySem.W.typeIn K (.ref zf_3) = some (.type "function"))
    (xL_3 : K.lookup zf_3 = some ⟨zio_3, zid_3, .func (PySem.W.fnOf "__init__" "NoCentre.__init__" (L2.defArgs si_3) (L2.defBody si_3) (L2.defScope si_3) .none zkw_3 zdc_3 zpm_3 zia_3 zcd_3 zct_3), zis_3⟩)
    (xc_3 : PySem.W.codeIn K zcd_3 "NoCentre.__init__" = true)
    (xK_3 : PySem.W.keepIn K (.ref zf_3) = true)
    (xn_3_many : PySem.W.findIn K (.ref C_3) "many" = some none)
    (xq_2 : PySem.W.isClsIn K C_2 = true)
    (xq_3 : PySem.W.isClsIn K C_3 = true)
    (xm_2_2 : PySem.W.subIn K (.ref C_2) (.ref C_2) = some true)
    (xm_3_3 : PySem.W.subIn K (.ref C_3) (.ref C_3) = some true)
    (xg_2 : PySem.W.findIn K (.ref C_2) "__getattribute__" = some (some (.builtin "BaseException.__getattribute__")))
    (xh_2 : PySem.W.findIn K (.ref C_2) "__getattr__" = some none)
    (xd_2 : PySem.W.hasDictIn K C_2 = true)
    (xg_3 : PySem.W.findIn K (.ref C_3) "__getattribute__" = some (some (.builtin "BaseException.__getattribute__")))
    (xh_3 : PySem.W.findIn K (.ref C_3) "__getattr__" = some none)
    (xd_3 : PySem.W.hasDictIn K C_3 = true)
    (da0 : PySem.W.nsIn K mainGlobals "_law_hand" = some (some (.ref df_0)))
    (dl0 : K.lookup df_0 = some ⟨do_0, dd_0, .func (PySem.W.fnOf "_law_hand" "_law_hand" (L2.defArgs s__law_hand) (L2.defBody s__law_hand) (L2.defScope s__law_hand) .none dk_0 dc_0 dp_0 da_0 dv_0 dt_0), ds_0⟩)
    (dc0 : PySem.W.codeIn K dv_0 "_law_hand" = true)
    (dk0 : PySem.W.keepIn K (.ref df_0) = true)
    (da1 : PySem.W.nsIn K mainGlobals "_law_mixed" = some (some (.ref df_1)))
    (dl1 : K.lookup df_1 = some ⟨do_1, dd_1, .func (PySem.W.fnOf "_law_mixed" "_law_mixed" (L2.defArgs s__law_mixed) (L2.defBody s__law_mixed) (L2.defScope s__law_mixed) .none dk_1 dc_1 dp_1 da_1 dv_1 dt_1), ds_1⟩)
    (dc1 : PySem.W.codeIn K dv_1 "_law_mixed" = true)
    (dk1 : PySem.W.keepIn K (.ref df_1) = true)
    (da2 : PySem.W.nsIn K mainGlobals "_law_take" = some (some (.ref df_2)))
    (dl2 : K.lookup df_2 = some ⟨do_2, dd_2, .func (PySem.W.fnOf "_law_take" "_law_take" (L2.defArgs s__law_take) (L2.defBody s__law_take) (L2.defScope s__law_take) .none dk_2 dc_2 dp_2 da_2 dv_2 dt_2), ds_2⟩)
    (dc2 : PySem.W.codeIn K dv_2 "_law_take" = true)
    (dk2 : PySem.W.keepIn K (.ref df_2) = true)
    (da3 : PySem.W.nsIn K mainGlobals "is_whole" = some (some (.ref df_3)))
    (dl3 : K.lookup df_3 = some ⟨do_3, dd_3, .func (PySem.W.fnOf "is_whole" "is_whole" (L2.defArgs s_is_whole) (L2.defBody s_is_whole) (L2.defScope s_is_whole) (.ref dT_3) dk_3 dc_3 dp_3 da_3 dv_3 dt_3), ds_3⟩)
    (dc3 : PySem.W.codeIn K dv_3 "is_whole" = true)
    (dk3 : PySem.W.keepIn K (.ref df_3) = true)
    (dT3 : K.lookup dT_3 = some dO_3)
    (dS3 : dO_3.data = .seq dI_3.toArray dn_3)
    (dV3 : Vals [.non, .non] dI_3)
    (da4 : PySem.W.nsIn K mainGlobals "is_ratio" = some (some (.ref df_4)))
    (dl4 : K.lookup df_4 = some ⟨do_4, dd_4, .func (PySem.W.fnOf "is_ratio" "is_ratio" (L2.defArgs s_is_ratio) (L2.defBody s_is_ratio) (L2.defScope s_is_ratio) .none dk_4 dc_4 dp_4 da_4 dv_4 dt_4), ds_4⟩)
    (dc4 : PySem.W.codeIn K dv_4 "is_ratio" = true)
    (dk4 : PySem.W.keepIn K (.ref df_4) = true)
    (da5 : PySem.W.nsIn K mainGlobals "is_small" = some (some (.ref df_5)))
    (dl5 : K.lookup df_5 = some ⟨do_5, dd_5, .func (PySem.W.fnOf "is_small" "is_small" (L2.defArgs s_is_small) (L2.defBody s_is_small) (L2.defScope s_is_small) .none dk_5 dc_5 dp_5 da_5 dv_5 dt_5), ds_5⟩)
    (dc5 : PySem.W.codeIn K dv_5 "is_small" = true)
    (dk5 : PySem.W.keepIn K (.ref df_5) = true)
    (da6 : PySem.W.nsIn K mainGlobals "is_weight" = some (some (.ref df_6)))
    (dl6 : K.lookup df_6 = some ⟨do_6, dd_6, .func (PySem.W.fnOf "is_weight" "is_weight" (L2.defArgs s_is_weight) (L2.defBody s_is_weight) (L2.defScope s_is_weight) .none dk_6 dc_6 dp_6 da_6 dv_6 dt_6), ds_6⟩)
    (dc6 : PySem.W.codeIn K dv_6 "is_weight" = true)
    (dk6 : PySem.W.keepIn K (.ref df_6) = true)
    (da7 : PySem.W.nsIn K mainGlobals "is_place" = some (some (.ref df_7)))
    (dl7 : K.lookup df_7 = some ⟨do_7, dd_7, .func (PySem.W.fnOf "is_place" "is_place" (L2.defArgs s_is_place) (L2.defBody s_is_place) (L2.defScope s_is_place) .none dk_7 dc_7 dp_7 da_7 dv_7 dt_7), ds_7⟩)
    (dc7 : PySem.W.codeIn K dv_7 "is_place" = true)
    (dk7 : PySem.W.keepIn K (.ref df_7) = true)
    (da8 : PySem.W.nsIn K mainGlobals "check_loads" = some (some (.ref df_8)))
    (dl8 : K.lookup df_8 = some ⟨do_8, dd_8, .func (PySem.W.fnOf "check_loads" "check_loads" (L2.defArgs s_check_loads) (L2.defBody s_check_loads) (L2.defScope s_check_loads) .none dk_8 dc_8 dp_8 da_8 dv_8 dt_8), ds_8⟩)
    (dc8 : PySem.W.codeIn K dv_8 "check_loads" = true)
    (dk8 : PySem.W.keepIn K (.ref df_8) = true)
    (da9 : PySem.W.nsIn K mainGlobals "_law_try" = some (some (.ref df_9)))
    (dl9 : K.lookup df_9 = some ⟨do_9, dd_9, .func (PySem.W.fnOf "_law_try" "_law_try" (L2.defArgs s__law_try) (L2.defBody s__law_try) (L2.defScope s__law_try) .none dk_9 dc_9 dp_9 da_9 dv_9 dt_9), ds_9⟩)
    (dc9 : PySem.W.codeIn K dv_9 "_law_try" = true)
    (dk9 : PySem.W.keepIn K (.ref df_9) = true)
    (da10 : PySem.W.nsIn K mainGlobals "_law_gcd" = some (some (.ref df_10)))
    (dl10 : K.lookup df_10 = some ⟨do_10, dd_10, .func (PySem.W.fnOf "_law_gcd" "_law_gcd" (L2.defArgs s__law_gcd) (L2.defBody s__law_gcd) (L2.defScope s__law_gcd) .none dk_10 dc_10 dp_10 da_10 dv_10 dt_10), ds_10⟩)
    (dc10 : PySem.W.codeIn K dv_10 "_law_gcd" = true)
    (dk10 : PySem.W.keepIn K (.ref df_10) = true)
    (da11 : PySem.W.nsIn K mainGlobals "_law_ratio" = some (some (.ref df_11)))
    (dl11 : K.lookup df_11 = some ⟨do_11, dd_11, .func (PySem.W.fnOf "_law_ratio" "_law_ratio" (L2.defArgs s__law_ratio) (L2.defBody s__law_ratio) (L2.defScope s__law_ratio) .none dk_11 dc_11 dp_11 da_11 dv_11 dt_11), ds_11⟩)
    (dc11 : PySem.W.codeIn K dv_11 "_law_ratio" = true)
    (dk11 : PySem.W.keepIn K (.ref df_11) = true)
    (da12 : PySem.W.nsIn K mainGlobals "_law_plus" = some (some (.ref df_12)))
    (dl12 : K.lookup df_12 = some ⟨do_12, dd_12, .func (PySem.W.fnOf "_law_plus" "_law_plus" (L2.defArgs s__law_plus) (L2.defBody s__law_plus) (L2.defScope s__law_plus) .none dk_12 dc_12 dp_12 da_12 dv_12 dt_12), ds_12⟩)
    (dc12 : PySem.W.codeIn K dv_12 "_law_plus" = true)
    (dk12 : PySem.W.keepIn K (.ref df_12) = true)
    (da13 : PySem.W.nsIn K mainGlobals "_law_sum" = some (some (.ref df_13)))
    (dl13 : K.lookup df_13 = some ⟨do_13, dd_13, .func (PySem.W.fnOf "_law_sum" "_law_sum" (L2.defArgs s__law_sum) (L2.defBody s__law_sum) (L2.defScope s__law_sum) .none dk_13 dc_13 dp_13 da_13 dv_13 dt_13), ds_13⟩)
    (dc13 : PySem.W.codeIn K dv_13 "_law_sum" = true)
    (dk13 : PySem.W.keepIn K (.ref df_13) = true)
    (da14 : PySem.W.nsIn K mainGlobals "_law_times" = some (some (.ref df_14)))
    (dl14 : K.lookup df_14 = some ⟨do_14, dd_14, .func (PySem.W.fnOf "_law_times" "_law_times" (L2.defArgs s__law_times) (L2.defBody s__law_times) (L2.defScope s__law_times) .none dk_14 dc_14 dp_14 da_14 dv_14 dt_14), ds_14⟩)
    (dc14 : PySem.W.codeIn K dv_14 "_law_times" = true)
    (dk14 : PySem.W.keepIn K (.ref df_14) = true)
    (da15 : PySem.W.nsIn K mainGlobals "_law_centre" = some (some (.ref df_15)))
    (dl15 : K.lookup df_15 = some ⟨do_15, dd_15, .func (PySem.W.fnOf "_law_centre" "_law_centre" (L2.defArgs s__law_centre) (L2.defBody s__law_centre) (L2.defScope s__law_centre) .none dk_15 dc_15 dp_15 da_15 dv_15 dt_15), ds_15⟩)
    (dc15 : PySem.W.codeIn K dv_15 "_law_centre" = true)
    (dk15 : PySem.W.keepIn K (.ref df_15) = true)
    (da16 : PySem.W.nsIn K mainGlobals "_lowest" = some (some (.ref df_16)))
    (dl16 : K.lookup df_16 = some ⟨do_16, dd_16, .func (PySem.W.fnOf "_lowest" "_lowest" (L2.defArgs s__lowest) (L2.defBody s__lowest) (L2.defScope s__lowest) .none dk_16 dc_16 dp_16 da_16 dv_16 dt_16), ds_16⟩)
    (dc16 : PySem.W.codeIn K dv_16 "_lowest" = true)
    (dk16 : PySem.W.keepIn K (.ref df_16) = true)
    (da17 : PySem.W.nsIn K mainGlobals "plus" = some (some (.ref df_17)))
    (dl17 : K.lookup df_17 = some ⟨do_17, dd_17, .func (PySem.W.fnOf "plus" "plus" (L2.defArgs s_plus) (L2.defBody s_plus) (L2.defScope s_plus) .none dk_17 dc_17 dp_17 da_17 dv_17 dt_17), ds_17⟩)
    (dc17 : PySem.W.codeIn K dv_17 "plus" = true)
    (dk17 : PySem.W.keepIn K (.ref df_17) = true)
    (da18 : PySem.W.nsIn K mainGlobals "sum_of" = some (some (.ref df_18)))
    (dl18 : K.lookup df_18 = some ⟨do_18, dd_18, .func (PySem.W.fnOf "sum_of" "sum_of" (L2.defArgs s_sum_of) (L2.defBody s_sum_of) (L2.defScope s_sum_of) .none dk_18 dc_18 dp_18 da_18 dv_18 dt_18), ds_18⟩)
    (dc18 : PySem.W.codeIn K dv_18 "sum_of" = true)
    (dk18 : PySem.W.keepIn K (.ref df_18) = true)
    (da19 : PySem.W.nsIn K mainGlobals "total_of" = some (some (.ref df_19)))
    (dl19 : K.lookup df_19 = some ⟨do_19, dd_19, .func (PySem.W.fnOf "total_of" "total_of" (L2.defArgs s_total_of) (L2.defBody s_total_of) (L2.defScope s_total_of) .none dk_19 dc_19 dp_19 da_19 dv_19 dt_19), ds_19⟩)
    (dc19 : PySem.W.codeIn K dv_19 "total_of" = true)
    (dk19 : PySem.W.keepIn K (.ref df_19) = true)
    (da20 : PySem.W.nsIn K mainGlobals "times" = some (some (.ref df_20)))
    (dl20 : K.lookup df_20 = some ⟨do_20, dd_20, .func (PySem.W.fnOf "times" "times" (L2.defArgs s_times) (L2.defBody s_times) (L2.defScope s_times) .none dk_20 dc_20 dp_20 da_20 dv_20 dt_20), ds_20⟩)
    (dc20 : PySem.W.codeIn K dv_20 "times" = true)
    (dk20 : PySem.W.keepIn K (.ref df_20) = true)
    (da21 : PySem.W.nsIn K mainGlobals "moment_of" = some (some (.ref df_21)))
    (dl21 : K.lookup df_21 = some ⟨do_21, dd_21, .func (PySem.W.fnOf "moment_of" "moment_of" (L2.defArgs s_moment_of) (L2.defBody s_moment_of) (L2.defScope s_moment_of) .none dk_21 dc_21 dp_21 da_21 dv_21 dt_21), ds_21⟩)
    (dc21 : PySem.W.codeIn K dv_21 "moment_of" = true)
    (dk21 : PySem.W.keepIn K (.ref df_21) = true)
    (da22 : PySem.W.nsIn K mainGlobals "over" = some (some (.ref df_22)))
    (dl22 : K.lookup df_22 = some ⟨do_22, dd_22, .func (PySem.W.fnOf "over" "over" (L2.defArgs s_over) (L2.defBody s_over) (L2.defScope s_over) .none dk_22 dc_22 dp_22 da_22 dv_22 dt_22), ds_22⟩)
    (dc22 : PySem.W.codeIn K dv_22 "over" = true)
    (dk22 : PySem.W.keepIn K (.ref df_22) = true)
    (da23 : PySem.W.nsIn K mainGlobals "centre_of" = some (some (.ref df_23)))
    (dl23 : K.lookup df_23 = some ⟨do_23, dd_23, .func (PySem.W.fnOf "centre_of" "centre_of" (L2.defArgs s_centre_of) (L2.defBody s_centre_of) (L2.defScope s_centre_of) .none dk_23 dc_23 dp_23 da_23 dv_23 dt_23), ds_23⟩)
    (dc23 : PySem.W.codeIn K dv_23 "centre_of" = true)
    (dk23 : PySem.W.keepIn K (.ref df_23) = true)
    (da24 : PySem.W.nsIn K mainGlobals "_law_middle" = some (some (.ref df_24)))
    (dl24 : K.lookup df_24 = some ⟨do_24, dd_24, .func (PySem.W.fnOf "_law_middle" "_law_middle" (L2.defArgs s__law_middle) (L2.defBody s__law_middle) (L2.defScope s__law_middle) .none dk_24 dc_24 dp_24 da_24 dv_24 dt_24), ds_24⟩)
    (dc24 : PySem.W.codeIn K dv_24 "_law_middle" = true)
    (dk24 : PySem.W.keepIn K (.ref df_24) = true)
    (da25 : PySem.W.nsIn K mainGlobals "_law_spoilt" = some (some (.ref df_25)))
    (dl25 : K.lookup df_25 = some ⟨do_25, dd_25, .func (PySem.W.fnOf "_law_spoilt" "_law_spoilt" (L2.defArgs s__law_spoilt) (L2.defBody s__law_spoilt) (L2.defScope s__law_spoilt) .none dk_25 dc_25 dp_25 da_25 dv_25 dt_25), ds_25⟩)
    (dc25 : PySem.W.codeIn K dv_25 "_law_spoilt" = true)
    (dk25 : PySem.W.keepIn K (.ref df_25) = true)
    (da26 : PySem.W.nsIn K mainGlobals "_law_refused" = some (some (.ref df_26)))
    (dl26 : K.lookup df_26 = some ⟨do_26, dd_26, .func (PySem.W.fnOf "_law_refused" "_law_refused" (L2.defArgs s__law_refused) (L2.defBody s__law_refused) (L2.defScope s__law_refused) .none dk_26 dc_26 dp_26 da_26 dv_26 dt_26), ds_26⟩)
    (dc26 : PySem.W.codeIn K dv_26 "_law_refused" = true)
    (dk26 : PySem.W.keepIn K (.ref df_26) = true)
    (da27 : PySem.W.nsIn K mainGlobals "_law_bounded" = some (some (.ref df_27)))
    (dl27 : K.lookup df_27 = some ⟨do_27, dd_27, .func (PySem.W.fnOf "_law_bounded" "_law_bounded" (L2.defArgs s__law_bounded) (L2.defBody s__law_bounded) (L2.defScope s__law_bounded) .none dk_27 dc_27 dp_27 da_27 dv_27 dt_27), ds_27⟩)
    (dc27 : PySem.W.codeIn K dv_27 "_law_bounded" = true)
    (dk27 : PySem.W.keepIn K (.ref df_27) = true)
    (da28 : PySem.W.nsIn K mainGlobals "_law_arm" = some (some (.ref df_28)))
    (dl28 : K.lookup df_28 = some ⟨do_28, dd_28, .func (PySem.W.fnOf "_law_arm" "_law_arm" (L2.defArgs s__law_arm) (L2.defBody s__law_arm) (L2.defScope s__law_arm) .none dk_28 dc_28 dp_28 da_28 dv_28 dt_28), ds_28⟩)
    (dc28 : PySem.W.codeIn K dv_28 "_law_arm" = true)
    (dk28 : PySem.W.keepIn K (.ref df_28) = true)
    (da29 : PySem.W.nsIn K mainGlobals "_law_tuples" = some (some (.ref df_29)))
    (dl29 : K.lookup df_29 = some ⟨do_29, dd_29, .func (PySem.W.fnOf "_law_tuples" "_law_tuples" (L2.defArgs s__law_tuples) (L2.defBody s__law_tuples) (L2.defScope s__law_tuples) .none dk_29 dc_29 dp_29 da_29 dv_29 dt_29), ds_29⟩)
    (dc29 : PySem.W.codeIn K dv_29 "_law_tuples" = true)
    (dk29 : PySem.W.keepIn K (.ref df_29) = true)
    (da30 : PySem.W.nsIn K mainGlobals "_law_coordinate" = some (some (.ref df_30)))
    (dl30 : K.lookup df_30 = some ⟨do_30, dd_30, .func (PySem.W.fnOf "_law_coordinate" "_law_coordinate" (L2.defArgs s__law_coordinate) (L2.defBody s__law_coordinate) (L2.defScope s__law_coordinate) .none dk_30 dc_30 dp_30 da_30 dv_30 dt_30), ds_30⟩)
    (dc30 : PySem.W.codeIn K dv_30 "_law_coordinate" = true)
    (dk30 : PySem.W.keepIn K (.ref df_30) = true)
    (da31 : PySem.W.nsIn K mainGlobals "_law_near" = some (some (.ref df_31)))
    (dl31 : K.lookup df_31 = some ⟨do_31, dd_31, .func (PySem.W.fnOf "_law_near" "_law_near" (L2.defArgs s__law_near) (L2.defBody s__law_near) (L2.defScope s__law_near) .none dk_31 dc_31 dp_31 da_31 dv_31 dt_31), ds_31⟩)
    (dc31 : PySem.W.codeIn K dv_31 "_law_near" = true)
    (dk31 : PySem.W.keepIn K (.ref df_31) = true)
    (da32 : PySem.W.nsIn K mainGlobals "one_load" = some (some (.ref df_32)))
    (dl32 : K.lookup df_32 = some ⟨do_32, dd_32, .func (PySem.W.fnOf "one_load" "one_load" (L2.defArgs s_one_load) (L2.defBody s_one_load) (L2.defScope s_one_load) .none dk_32 dc_32 dp_32 da_32 dv_32 dt_32), ds_32⟩)
    (dc32 : PySem.W.codeIn K dv_32 "one_load" = true)
    (dk32 : PySem.W.keepIn K (.ref df_32) = true)
    (da33 : PySem.W.nsIn K mainGlobals "_law_together" = some (some (.ref df_33)))
    (dl33 : K.lookup df_33 = some ⟨do_33, dd_33, .func (PySem.W.fnOf "_law_together" "_law_together" (L2.defArgs s__law_together) (L2.defBody s__law_together) (L2.defScope s__law_together) .none dk_33 dc_33 dp_33 da_33 dv_33 dt_33), ds_33⟩)
    (dc33 : PySem.W.codeIn K dv_33 "_law_together" = true)
    (dk33 : PySem.W.keepIn K (.ref df_33) = true)
    (da34 : PySem.W.nsIn K mainGlobals "_law_over" = some (some (.ref df_34)))
    (dl34 : K.lookup df_34 = some ⟨do_34, dd_34, .func (PySem.W.fnOf "_law_over" "_law_over" (L2.defArgs s__law_over) (L2.defBody s__law_over) (L2.defScope s__law_over) .none dk_34 dc_34 dp_34 da_34 dv_34 dt_34), ds_34⟩)
    (dc34 : PySem.W.codeIn K dv_34 "_law_over" = true)
    (dk34 : PySem.W.keepIn K (.ref df_34) = true)
    (da35 : PySem.W.nsIn K mainGlobals "law" = some (some (.ref df_35)))
    (dl35 : K.lookup df_35 = some ⟨do_35, dd_35, .func (PySem.W.fnOf "law" "law" (L2.defArgs s_law) (L2.defBody s_law) (L2.defScope s_law) .none dk_35 dc_35 dp_35 da_35 dv_35 dt_35), ds_35⟩)
    (dc35 : PySem.W.codeIn K dv_35 "law" = true)
    (dk35 : PySem.W.keepIn K (.ref df_35) = true)
    : ∃ cm, Tx K mg cm := ⟨fun k => match k with | 1 => C_1 | 2 => C_2 | 3 => C_3 | _ => 0, {
    g_gcd := PySem.W.mg_of X G hg_gcd
    n_abs := PySem.W.mg_none_of X G hn_abs
    n_bool := PySem.W.mg_none_of X G hn_bool
    n_enumerate := PySem.W.mg_none_of X G hn_enumerate
    n_int := PySem.W.mg_none_of X G hn_int
    n_isinstance := PySem.W.mg_none_of X G hn_isinstance
    n_len := PySem.W.mg_none_of X G hn_len
    n_list := PySem.W.mg_none_of X G hn_list
    n_range := PySem.W.mg_none_of X G hn_range
    n_repr := PySem.W.mg_none_of X G hn_repr
    n_tuple := PySem.W.mg_none_of X G hn_tuple
    c_SMALL := ⟨_, PySem.W.mg_of X G hc_SMALL⟩
    c_ZERO := ⟨_, _, _, _, _, PySem.W.mg_of X G hc_ZERO, hd_ZERO⟩
    x_1 := PySem.W.mg_of X G xa_1
    exc_1 := FL.excH1 (st := si_1) (ps := ["self", "what"]) X G ⟨⟨znm_1, zq_1, zN_1, zbs_1, zbm_1, zsn_1, zsub_1, zab_1, zcol_1, zdd_1, zm0_1, zm1_1, zm2_1, zm3_1, zm5_1, xl_1, xr_1⟩, xs_1, xe_1, xt_1, xk_1⟩ xi_1 xy_1 xL_1 xc_1 xK_1 ⟨rfl, rfl, rfl, by decide +kernel, rfl, by decide +kernel, by decide +kernel⟩ rfl (PySem.W.mg_of X G xa_1) xn_1_what rfl (fun _ _ _ _ _ _ us hl => match us, hl with | [_, _], _ => rfl)
    x_2 := PySem.W.mg_of X G xa_2
    exc_2 := FL.excH2 (st := si_2) (ps := ["self", "index", "what"]) X G ⟨⟨znm_2, zq_2, zN_2, zbs_2, zbm_2, zsn_2, zsub_2, zab_2, zcol_2, zdd_2, zm0_2, zm1_2, zm2_2, zm3_2, zm5_2, xl_2, xr_2⟩, xs_2, xe_2, xt_2, xk_2⟩ xi_2 xy_2 xL_2 xc_2 xK_2 ⟨rfl, rfl, rfl, by decide +kernel, rfl, by decide +kernel, by decide +kernel⟩ rfl (PySem.W.mg_of X G xa_2) xn_2_index xn_2_what rfl (fun _ _ _ _ _ _ us hl => match us, hl with | [_, _, _], _ => rfl)
    x_3 := PySem.W.mg_of X G xa_3
    exc_3 := FL.excH1 (st := si_3) (ps := ["self", "many"]) X G ⟨⟨znm_3, zq_3, zN_3, zbs_3, zbm_3, zsn_3, zsub_3, zab_3, zcol_3, zdd_3, zm0_3, zm1_3, zm2_3, zm3_3, zm5_3, xl_3, xr_3⟩, xs_3, xe_3, xt_3, xk_3⟩ xi_3 xy_3 xL_3 xc_3 xK_3 ⟨rfl, rfl, rfl, by decide +kernel, rfl, by decide +kernel, by decide +kernel⟩ rfl (PySem.W.mg_of X G xa_3) xn_3_many rfl (fun _ _ _ _ _ _ us hl => match us, hl with | [_, _], _ => rfl)
    em_2_2 := FL.exm_of xe_2 xq_2 xt_2 xm_2_2
    em_3_3 := FL.exm_of xe_3 xq_3 xt_3 xm_3_3
    xf_2 := ⟨xg_2, xh_2, xe_2, xd_2⟩
    xf_3 := ⟨xg_3, xh_3, xe_3, xd_3⟩
    no_2_index := xn_2_index
    no_2_what := xn_2_what
    no_3_many := xn_3_many
    d__law_hand := ⟨_, FL.def_at X G da0 dl0 dc0 dk0⟩
    d__law_mixed := ⟨_, FL.def_at X G da1 dl1 dc1 dk1⟩
    d__law_take := ⟨_, FL.def_at X G da2 dl2 dc2 dk2⟩
    d_is_whole := ⟨_, FL.def_atD X G da3 dl3 dc3 dk3 dT3 dS3 dV3 (by simp)⟩
    d_is_ratio := ⟨_, FL.def_at X G da4 dl4 dc4 dk4⟩
    d_is_small := ⟨_, FL.def_at X G da5 dl5 dc5 dk5⟩
    d_is_weight := ⟨_, FL.def_at X G da6 dl6 dc6 dk6⟩
    d_is_place := ⟨_, FL.def_at X G da7 dl7 dc7 dk7⟩
    d_check_loads := ⟨_, FL.def_at X G da8 dl8 dc8 dk8⟩
    d__law_try := ⟨_, FL.def_at X G da9 dl9 dc9 dk9⟩
    d__law_gcd := ⟨_, FL.def_at X G da10 dl10 dc10 dk10⟩
    d__law_ratio := ⟨_, FL.def_at X G da11 dl11 dc11 dk11⟩
    d__law_plus := ⟨_, FL.def_at X G da12 dl12 dc12 dk12⟩
    d__law_sum := ⟨_, FL.def_at X G da13 dl13 dc13 dk13⟩
    d__law_times := ⟨_, FL.def_at X G da14 dl14 dc14 dk14⟩
    d__law_centre := ⟨_, FL.def_at X G da15 dl15 dc15 dk15⟩
    d__lowest := ⟨_, FL.def_at X G da16 dl16 dc16 dk16⟩
    d_plus := ⟨_, FL.def_at X G da17 dl17 dc17 dk17⟩
    d_sum_of := ⟨_, FL.def_at X G da18 dl18 dc18 dk18⟩
    d_total_of := ⟨_, FL.def_at X G da19 dl19 dc19 dk19⟩
    d_times := ⟨_, FL.def_at X G da20 dl20 dc20 dk20⟩
    d_moment_of := ⟨_, FL.def_at X G da21 dl21 dc21 dk21⟩
    d_over := ⟨_, FL.def_at X G da22 dl22 dc22 dk22⟩
    d_centre_of := ⟨_, FL.def_at X G da23 dl23 dc23 dk23⟩
    d__law_middle := ⟨_, FL.def_at X G da24 dl24 dc24 dk24⟩
    d__law_spoilt := ⟨_, FL.def_at X G da25 dl25 dc25 dk25⟩
    d__law_refused := ⟨_, FL.def_at X G da26 dl26 dc26 dk26⟩
    d__law_bounded := ⟨_, FL.def_at X G da27 dl27 dc27 dk27⟩
    d__law_arm := ⟨_, FL.def_at X G da28 dl28 dc28 dk28⟩
    d__law_tuples := ⟨_, FL.def_at X G da29 dl29 dc29 dk29⟩
    d__law_coordinate := ⟨_, FL.def_at X G da30 dl30 dc30 dk30⟩
    d__law_near := ⟨_, FL.def_at X G da31 dl31 dc31 dk31⟩
    d_one_load := ⟨_, FL.def_at X G da32 dl32 dc32 dk32⟩
    d__law_together := ⟨_, FL.def_at X G da33 dl33 dc33 dk33⟩
    d__law_over := ⟨_, FL.def_at X G da34 dl34 dc34 dk34⟩
    d_law := ⟨_, FL.def_at X G da35 dl35 dc35 dk35⟩
  }⟩
theorem law_mk {P : Program} {w : World} {K : PySem.W.Frag} {mg : Str → Option Value} (h : ∃ cm, Tx K mg cm) : ∃ (cm : Nat → Addr) (f : Addr) (fd : FuncData), mg "law" = some (.ref f) ∧ (∀ (s : Shared) (u : Value), BindsTo s fd ⟨[u], []⟩ [("script", u)]) ∧
    ∀ base : Heap, K.In base → base.Ns mainGlobals mg → FL.TopOk P w K mg base f fd "script" (spX K cm 1 F_law) := by
  obtain ⟨cm, T⟩ := h
  exact FL.law_finT (cm := cm) T.d_law (fun _ _ _ _ _ _ us hl => match us, hl with | [_], _ => rfl) fun base => has_all T
end K07

namespace K07
open PySem FL
variable {w : Wd}
--@hand
theorem fmod_bd {x m : Int} (h : 0 < m) : 0 ≤ x.fmod m ∧ x.fmod m < m := ⟨Int.fmod_nonneg_of_pos x h, Int.fmod_lt_of_pos x h⟩
theorem sz_of {k : Nat} {i : Int} (h0 : 0 ≤ i) (h : i < 2 ^ k) : Sz k i := by
  unfold Sz
  have e : ((2 ^ k : Nat) : Int) = 2 ^ k := by norm_cast
  omega
theorem fmod_sz {x m : Int} (h : 0 < m) (hm : m ≤ 2 ^ 31) : Sz 31 (x.fmod m) := sz_of (fmod_bd h).1 (Int.lt_of_lt_of_le (fmod_bd h).2 hm)
theorem mixed_w {a b : Int} (ha : Sz 40 a) (hb : Sz 40 b) : ∃ m, F__law_mixed [.int a, .int b] w = .ok (.int m) w := by
  have s1 : Sz 20 69621 := by unfold Sz; decide
  have s2 : Sz 20 7907 := by unfold Sz; decide
  have s3 : Sz 20 104723 := by unfold Sz; decide
  have s4 : Sz 20 48271 := by unfold Sz; decide
  have s5 : Sz 20 131 := by unfold Sz; decide
  have s6 : Sz 20 7 := by unfold Sz; decide
  have s7 : Sz 20 32 := by unfold Sz; decide
  have o : Sz 31 ((a * 69621 + b * 7907 + 40503).fmod 2147483647) := fmod_sz (by decide) (by decide)
  have t : Sz 31 (((a * 69621 + b * 7907 + 40503).fmod 2147483647 * (a * 69621 + b * 7907 + 40503).fmod 2147483647 + b * 104723 + ((a * 69621 + b * 7907 + 40503).fmod 2147483647).fdiv 131).fmod 2147483629) := fmod_sz (by decide) (by decide)
  unfold F__law_mixed
  simp only [bind_w, bindK_ok, bindK_ex, ret_w, fail_w, eVar_w, varK_v, eC_w, eUn_w, eBin_w, evs0_w, evs1_w, eTup_w, eLst_w, eCall_w, eIf_w, ifE_t, ifE_f, eAnd_w, andE_t, andE_f, eOr_w, orE_t, orE_f, eNot_w, eChain_w, chainM_w, eJs_w, js0, js1, chainK_t, chainK_f, eNew_w, eHand_w, handK_ok, eXf_w, tVal_w, tTru_w, tNot_w, tYes_w, tAnd_w, tOr_w, andT_t, andT_f, orT_t, orT_f, boolOf_w, truth_bl, truth_int, truth_non, truth_lst, truth_tup, truth_frz, add_int, sub_int, neg_int, lt_int, le_int, gt_int, ge_int, isNon_w, notNon_w, is_w, isNot_w, int_w, abs_w, gcd_w, tup_w, tupt_w, list_w, listl_w, len_lst, len_tup, len_frz, un1_w, bin2_w, eq_int, ne_int, eq_pair, ne_pair, ix_lst, ix_frz, ix_tup, ix_hand, itK_v, item0, item1, item2, item3, isi_int_i, isi_int_b, isi_int_n, isi_int_s, isi_int_t, isi_int_l, isi_int_f, isi_int_h, isi_bool_i, isi_bool_b, isi_bool_n, isi_bool_s, isi_bool_t, isi_bool_l, isi_bool_f, isi_bool_h, isi_str_i, isi_str_b, isi_str_n, isi_str_s, isi_str_t, isi_str_l, isi_str_f, isi_str_h, isi_tuple_i, isi_tuple_b, isi_tuple_n, isi_tuple_s, isi_tuple_t, isi_tuple_l, isi_tuple_f, isi_tuple_h, isi_list_i, isi_list_b, isi_list_n, isi_list_s, isi_list_t, isi_list_l, isi_list_f, isi_list_h, isi_dict_i, isi_dict_b, isi_dict_n, isi_dict_s, isi_dict_t, isi_dict_l, isi_dict_f, isi_dict_h, sSeq_w, seqK_nx, seqK_rt, seqK_bk, seqK_ct, seqK_ex, onK_ok, onK_ex, sNext_w, sSet_w, sOwn_w, sFrz_w, frzK_v, sApp_w, sExpr_w, sRet_w, sRetN_w, sIf_w, ifK_t, ifK_f, sBrk_w, sCnt_w, sPar_w, parK_v, sUnp_w, unpK_2, unpK_3, unpK_4, sHSet_w, hsK_0, hsK_1, hsK_2, hsK_3, sRaise_w, sFor_w, iSeq_w, seqOf_lst, seqOf_tup, seqOf_frz, iRng_w, loopK_nx, loopK_ct, loopK_bk, loopK_rt, for0, forN, loopF_nx, loopF_ct, loopF_bk, loopF_rt, loopF_ex, sWhile_w, nLc_w, lcB_ok, lc0, lcN, lcT_t, lcT_f, lcE_v, wipeE0, wipeE1, sTry_w, tryK_nx, tryK_rt, suiteK_nx, suiteK_rt, wipe0, wipe_v, wipe_n, wipe_o, call_w, callK_nx, callK_rt, callK_ex, vals0, vals1, List.length_cons, List.length_nil, List.replicate_succ, List.replicate_zero, List.cons_append, List.nil_append, List.getElem?_cons_zero, List.getElem?_cons_succ, List.set_cons_zero, List.set_cons_succ, Nat.reduceSub, Nat.reduceAdd, Nat.zero_add, Bool.not_true, Bool.not_false, Bool.and_self, Bool.and_true, Bool.and_false, mul_int ha s1, mul_int hb s2, mod_int (show (2147483647 : Int) ≠ 0 by decide), mul_int o o, mul_int hb s3, fdiv_int (show (131 : Int) ≠ 0 by decide) s5, mod_int (show (2147483629 : Int) ≠ 0 by decide), mul_int t s4, fdiv_int (show (7 : Int) ≠ 0 by decide) s6, mod_int (show (2147483579 : Int) ≠ 0 by decide), fdiv_int (show (32 : Int) ≠ 0 by decide) s7]
  exact ⟨_, rfl⟩
/-! ### the hand -/
def HandI (w : Wd) : Prop := ∃ (cs : List Int) (i rest total : Int), w = some [.lst (cs.map D.int), .int i, .int rest, .int total] ∧ (∀ c ∈ cs, 0 ≤ c) ∧ cs.length ≤ 63 ∧ 0 ≤ i ∧ i ≤ 63 ∧ 0 ≤ rest ∧ 0 ≤ total ∧ total < 2147483587
theorem sz40 {i : Int} (h0 : 0 ≤ i) (h : i < 2147483648) : Sz 40 i := sz_of h0 (by omega)
theorem take_w {many : Int} {k : Nat} (hi : HandI w) (hm : 0 < many) (hk : Sz k many) (hk9 : k < 9000) : ∃ v w', F__law_take [.hand, .int many] w = .ok (.int v) w' ∧ 0 ≤ v ∧ v < many ∧ HandI w' := by
  obtain ⟨cs, i, rest, total, rfl, hc, hl, hi0, hi6, hr, ht0, ht⟩ := hi
  have pw : ∀ w : Wd, powD (.int 10) (.int 18) w = .ok (.int 1000000000000000000) w := fun w => by rw [pow_int (by decide)]; rfl
  have m0 : many ≠ 0 := by omega
  have bd : ∀ x : Int, 0 ≤ x.fmod many ∧ x.fmod many < many := fun x => fmod_bd hm
  unfold F__law_take
  -- the last way
  have last : ∀ ρ : FL.Env, ∀ j : Int, 0 ≤ j → j ≤ 63 → ρ[0]? = some (.val .hand) → ρ[1]? = some (.val (.int many)) → ∃ v w', callK (sSeq (sHSet (eVar 0) (eC (.int 3)) (eBin modD (eCall (un1 intD) [(eBin addD (eBin ixD (eVar 0) (eC (.int 3))) (eC (.int 1)))]) (eC (.int 2147483587)))) (sRet (eBin modD (eCall (un1 intD) [(eCall F__law_mixed [(eBin ixD (eVar 0) (eC (.int 3))), (eBin ixD (eVar 0) (eC (.int 1)))])]) (eVar 1))) ρ (some [.lst (cs.map D.int), .int j, .int 0, .int total])) = .ok (.int v) w' ∧ 0 ≤ v ∧ v < many ∧ HandI w' := by
    intro ρ j hj0 hj6 e0 e1
    obtain ⟨m, em⟩ := mixed_w (a := (total + 1).fmod 2147483587) (b := j) (w := some [.lst (cs.map D.int), .int j, .int 0, .int ((total + 1).fmod 2147483587)]) ((fmod_sz (by decide) (by decide)).mono (by decide)) (sz40 hj0 (by omega))
    simp only [bind_w, bindK_ok, bindK_ex, ret_w, fail_w, eVar_w, varK_v, eC_w, eUn_w, eBin_w, evs0_w, evs1_w, eTup_w, eLst_w, eCall_w, eIf_w, ifE_t, ifE_f, eAnd_w, andE_t, andE_f, eOr_w, orE_t, orE_f, eNot_w, eChain_w, chainM_w, eJs_w, js0, js1, chainK_t, chainK_f, eNew_w, eHand_w, handK_ok, eXf_w, tVal_w, tTru_w, tNot_w, tYes_w, tAnd_w, tOr_w, andT_t, andT_f, orT_t, orT_f, boolOf_w, truth_bl, truth_int, truth_non, truth_lst, truth_tup, truth_frz, add_int, sub_int, neg_int, lt_int, le_int, gt_int, ge_int, isNon_w, notNon_w, is_w, isNot_w, int_w, abs_w, gcd_w, tup_w, tupt_w, list_w, listl_w, len_lst, len_tup, len_frz, un1_w, bin2_w, eq_int, ne_int, eq_pair, ne_pair, ix_lst, ix_frz, ix_tup, ix_hand, itK_v, item0, item1, item2, item3, isi_int_i, isi_int_b, isi_int_n, isi_int_s, isi_int_t, isi_int_l, isi_int_f, isi_int_h, isi_bool_i, isi_bool_b, isi_bool_n, isi_bool_s, isi_bool_t, isi_bool_l, isi_bool_f, isi_bool_h, isi_str_i, isi_str_b, isi_str_n, isi_str_s, isi_str_t, isi_str_l, isi_str_f, isi_str_h, isi_tuple_i, isi_tuple_b, isi_tuple_n, isi_tuple_s, isi_tuple_t, isi_tuple_l, isi_tuple_f, isi_tuple_h, isi_list_i, isi_list_b, isi_list_n, isi_list_s, isi_list_t, isi_list_l, isi_list_f, isi_list_h, isi_dict_i, isi_dict_b, isi_dict_n, isi_dict_s, isi_dict_t, isi_dict_l, isi_dict_f, isi_dict_h, sSeq_w, seqK_nx, seqK_rt, seqK_bk, seqK_ct, seqK_ex, onK_ok, onK_ex, sNext_w, sSet_w, sOwn_w, sFrz_w, frzK_v, sApp_w, sExpr_w, sRet_w, sRetN_w, sIf_w, ifK_t, ifK_f, sBrk_w, sCnt_w, sPar_w, parK_v, sUnp_w, unpK_2, unpK_3, unpK_4, sHSet_w, hsK_0, hsK_1, hsK_2, hsK_3, sRaise_w, sFor_w, iSeq_w, seqOf_lst, seqOf_tup, seqOf_frz, iRng_w, loopK_nx, loopK_ct, loopK_bk, loopK_rt, for0, forN, loopF_nx, loopF_ct, loopF_bk, loopF_rt, loopF_ex, sWhile_w, nLc_w, lcB_ok, lc0, lcN, lcT_t, lcT_f, lcE_v, wipeE0, wipeE1, sTry_w, tryK_nx, tryK_rt, suiteK_nx, suiteK_rt, wipe0, wipe_v, wipe_n, wipe_o, call_w, callK_nx, callK_rt, callK_ex, vals0, vals1, List.length_cons, List.length_nil, List.replicate_succ, List.replicate_zero, List.cons_append, List.nil_append, List.getElem?_cons_zero, List.getElem?_cons_succ, List.set_cons_zero, List.set_cons_succ, Nat.reduceSub, Nat.reduceAdd, Nat.zero_add, Bool.not_true, Bool.not_false, Bool.and_self, Bool.and_true, Bool.and_false, e0, e1, mod_int (show (2147483587 : Int) ≠ 0 by decide), em, mod_int m0]
    exact ⟨_, _, rfl, (bd m).1, (bd m).2, cs, j, 0, _, rfl, hc, hl, hj0, hj6, by decide, (fmod_bd (by decide)).1, (fmod_bd (by decide)).2⟩
  by_cases h2 : rest = 0
  · subst h2
    by_cases h1 : i < cs.length
    · obtain ⟨c, ec⟩ : ∃ c, cs[i.toNat]? = some c := ⟨_, List.getElem?_eq_getElem (by omega)⟩
      have hc0 : 0 ≤ c := hc c (List.mem_of_getElem? ec)
      have eit : itemAt (cs.map D.int) i = some (.int c) := item_nat hi0 (by rw [List.getElem?_map, ec]; rfl)
      by_cases h18 : c < 1000000000000000000
      · obtain ⟨m, em⟩ := mixed_w (a := c.fmod 2147483647) (b := i + 1) (w := some [.lst (cs.map D.int), .int (i + 1), .int 0, .int total]) ((fmod_sz (by decide) (by decide)).mono (by decide)) (sz40 (by omega) (by omega))
        simp only [bind_w, bindK_ok, bindK_ex, ret_w, fail_w, eVar_w, varK_v, eC_w, eUn_w, eBin_w, evs0_w, evs1_w, eTup_w, eLst_w, eCall_w, eIf_w, ifE_t, ifE_f, eAnd_w, andE_t, andE_f, eOr_w, orE_t, orE_f, eNot_w, eChain_w, chainM_w, eJs_w, js0, js1, chainK_t, chainK_f, eNew_w, eHand_w, handK_ok, eXf_w, tVal_w, tTru_w, tNot_w, tYes_w, tAnd_w, tOr_w, andT_t, andT_f, orT_t, orT_f, boolOf_w, truth_bl, truth_int, truth_non, truth_lst, truth_tup, truth_frz, add_int, sub_int, neg_int, lt_int, le_int, gt_int, ge_int, isNon_w, notNon_w, is_w, isNot_w, int_w, abs_w, gcd_w, tup_w, tupt_w, list_w, listl_w, len_lst, len_tup, len_frz, un1_w, bin2_w, eq_int, ne_int, eq_pair, ne_pair, ix_lst, ix_frz, ix_tup, ix_hand, itK_v, item0, item1, item2, item3, isi_int_i, isi_int_b, isi_int_n, isi_int_s, isi_int_t, isi_int_l, isi_int_f, isi_int_h, isi_bool_i, isi_bool_b, isi_bool_n, isi_bool_s, isi_bool_t, isi_bool_l, isi_bool_f, isi_bool_h, isi_str_i, isi_str_b, isi_str_n, isi_str_s, isi_str_t, isi_str_l, isi_str_f, isi_str_h, isi_tuple_i, isi_tuple_b, isi_tuple_n, isi_tuple_s, isi_tuple_t, isi_tuple_l, isi_tuple_f, isi_tuple_h, isi_list_i, isi_list_b, isi_list_n, isi_list_s, isi_list_t, isi_list_l, isi_list_f, isi_list_h, isi_dict_i, isi_dict_b, isi_dict_n, isi_dict_s, isi_dict_t, isi_dict_l, isi_dict_f, isi_dict_h, sSeq_w, seqK_nx, seqK_rt, seqK_bk, seqK_ct, seqK_ex, onK_ok, onK_ex, sNext_w, sSet_w, sOwn_w, sFrz_w, frzK_v, sApp_w, sExpr_w, sRet_w, sRetN_w, sIf_w, ifK_t, ifK_f, sBrk_w, sCnt_w, sPar_w, parK_v, sUnp_w, unpK_2, unpK_3, unpK_4, sHSet_w, hsK_0, hsK_1, hsK_2, hsK_3, sRaise_w, sFor_w, iSeq_w, seqOf_lst, seqOf_tup, seqOf_frz, iRng_w, loopK_nx, loopK_ct, loopK_bk, loopK_rt, for0, forN, loopF_nx, loopF_ct, loopF_bk, loopF_rt, loopF_ex, sWhile_w, nLc_w, lcB_ok, lc0, lcN, lcT_t, lcT_f, lcE_v, wipeE0, wipeE1, sTry_w, tryK_nx, tryK_rt, suiteK_nx, suiteK_rt, wipe0, wipe_v, wipe_n, wipe_o, call_w, callK_nx, callK_rt, callK_ex, vals0, vals1, List.length_cons, List.length_nil, List.replicate_succ, List.replicate_zero, List.cons_append, List.nil_append, List.getElem?_cons_zero, List.getElem?_cons_succ, List.set_cons_zero, List.set_cons_succ, Nat.reduceSub, Nat.reduceAdd, Nat.zero_add, Bool.not_true, Bool.not_false, Bool.and_self, Bool.and_true, Bool.and_false, pw, eit, List.length_map, h1, h18, decide_true, beq_self_eq_true, mod_int (show (2147483647 : Int) ≠ 0 by decide), em, mod_int m0]
        exact ⟨_, _, rfl, (bd m).1, (bd m).2, cs, i + 1, 0, total, rfl, hc, hl, by omega, by omega, by decide, ht0, ht⟩
      · have hp : 0 < c := by omega
        simp only [bind_w, bindK_ok, bindK_ex, ret_w, fail_w, eVar_w, varK_v, eC_w, eUn_w, eBin_w, evs0_w, evs1_w, eTup_w, eLst_w, eCall_w, eIf_w, ifE_t, ifE_f, eAnd_w, andE_t, andE_f, eOr_w, orE_t, orE_f, eNot_w, eChain_w, chainM_w, eJs_w, js0, js1, chainK_t, chainK_f, eNew_w, eHand_w, handK_ok, eXf_w, tVal_w, tTru_w, tNot_w, tYes_w, tAnd_w, tOr_w, andT_t, andT_f, orT_t, orT_f, boolOf_w, truth_bl, truth_int, truth_non, truth_lst, truth_tup, truth_frz, add_int, sub_int, neg_int, lt_int, le_int, gt_int, ge_int, isNon_w, notNon_w, is_w, isNot_w, int_w, abs_w, gcd_w, tup_w, tupt_w, list_w, listl_w, len_lst, len_tup, len_frz, un1_w, bin2_w, eq_int, ne_int, eq_pair, ne_pair, ix_lst, ix_frz, ix_tup, ix_hand, itK_v, item0, item1, item2, item3, isi_int_i, isi_int_b, isi_int_n, isi_int_s, isi_int_t, isi_int_l, isi_int_f, isi_int_h, isi_bool_i, isi_bool_b, isi_bool_n, isi_bool_s, isi_bool_t, isi_bool_l, isi_bool_f, isi_bool_h, isi_str_i, isi_str_b, isi_str_n, isi_str_s, isi_str_t, isi_str_l, isi_str_f, isi_str_h, isi_tuple_i, isi_tuple_b, isi_tuple_n, isi_tuple_s, isi_tuple_t, isi_tuple_l, isi_tuple_f, isi_tuple_h, isi_list_i, isi_list_b, isi_list_n, isi_list_s, isi_list_t, isi_list_l, isi_list_f, isi_list_h, isi_dict_i, isi_dict_b, isi_dict_n, isi_dict_s, isi_dict_t, isi_dict_l, isi_dict_f, isi_dict_h, sSeq_w, seqK_nx, seqK_rt, seqK_bk, seqK_ct, seqK_ex, onK_ok, onK_ex, sNext_w, sSet_w, sOwn_w, sFrz_w, frzK_v, sApp_w, sExpr_w, sRet_w, sRetN_w, sIf_w, ifK_t, ifK_f, sBrk_w, sCnt_w, sPar_w, parK_v, sUnp_w, unpK_2, unpK_3, unpK_4, sHSet_w, hsK_0, hsK_1, hsK_2, hsK_3, sRaise_w, sFor_w, iSeq_w, seqOf_lst, seqOf_tup, seqOf_frz, iRng_w, loopK_nx, loopK_ct, loopK_bk, loopK_rt, for0, forN, loopF_nx, loopF_ct, loopF_bk, loopF_rt, loopF_ex, sWhile_w, nLc_w, lcB_ok, lc0, lcN, lcT_t, lcT_f, lcE_v, wipeE0, wipeE1, sTry_w, tryK_nx, tryK_rt, suiteK_nx, suiteK_rt, wipe0, wipe_v, wipe_n, wipe_o, call_w, callK_nx, callK_rt, callK_ex, vals0, vals1, List.length_cons, List.length_nil, List.replicate_succ, List.replicate_zero, List.cons_append, List.nil_append, List.getElem?_cons_zero, List.getElem?_cons_succ, List.set_cons_zero, List.set_cons_succ, Nat.reduceSub, Nat.reduceAdd, Nat.zero_add, Bool.not_true, Bool.not_false, Bool.and_self, Bool.and_true, Bool.and_false, pw, eit, List.length_map, h1, h18, hp, decide_true, decide_false, beq_self_eq_true, fdiv_int m0 hk hk9, mod_int m0]
        exact ⟨_, _, rfl, (bd c).1, (bd c).2, cs, i + 1, _, total, rfl, hc, hl, by omega, by omega, Int.fdiv_nonneg (by omega) (by omega), ht0, ht⟩
    · simp only [bind_w, bindK_ok, bindK_ex, ret_w, fail_w, eVar_w, varK_v, eC_w, eUn_w, eBin_w, evs0_w, evs1_w, eTup_w, eLst_w, eCall_w, eIf_w, ifE_t, ifE_f, eAnd_w, andE_t, andE_f, eOr_w, orE_t, orE_f, eNot_w, eChain_w, chainM_w, eJs_w, js0, js1, chainK_t, chainK_f, eNew_w, eHand_w, handK_ok, eXf_w, tVal_w, tTru_w, tNot_w, tYes_w, tAnd_w, tOr_w, andT_t, andT_f, orT_t, orT_f, boolOf_w, truth_bl, truth_int, truth_non, truth_lst, truth_tup, truth_frz, add_int, sub_int, neg_int, lt_int, le_int, gt_int, ge_int, isNon_w, notNon_w, is_w, isNot_w, int_w, abs_w, gcd_w, tup_w, tupt_w, list_w, listl_w, len_lst, len_tup, len_frz, un1_w, bin2_w, eq_int, ne_int, eq_pair, ne_pair, ix_lst, ix_frz, ix_tup, ix_hand, itK_v, item0, item1, item2, item3, isi_int_i, isi_int_b, isi_int_n, isi_int_s, isi_int_t, isi_int_l, isi_int_f, isi_int_h, isi_bool_i, isi_bool_b, isi_bool_n, isi_bool_s, isi_bool_t, isi_bool_l, isi_bool_f, isi_bool_h, isi_str_i, isi_str_b, isi_str_n, isi_str_s, isi_str_t, isi_str_l, isi_str_f, isi_str_h, isi_tuple_i, isi_tuple_b, isi_tuple_n, isi_tuple_s, isi_tuple_t, isi_tuple_l, isi_tuple_f, isi_tuple_h, isi_list_i, isi_list_b, isi_list_n, isi_list_s, isi_list_t, isi_list_l, isi_list_f, isi_list_h, isi_dict_i, isi_dict_b, isi_dict_n, isi_dict_s, isi_dict_t, isi_dict_l, isi_dict_f, isi_dict_h, sSeq_w, seqK_nx, seqK_rt, seqK_bk, seqK_ct, seqK_ex, onK_ok, onK_ex, sNext_w, sSet_w, sOwn_w, sFrz_w, frzK_v, sApp_w, sExpr_w, sRet_w, sRetN_w, sIf_w, ifK_t, ifK_f, sBrk_w, sCnt_w, sPar_w, parK_v, sUnp_w, unpK_2, unpK_3, unpK_4, sHSet_w, hsK_0, hsK_1, hsK_2, hsK_3, sRaise_w, sFor_w, iSeq_w, seqOf_lst, seqOf_tup, seqOf_frz, iRng_w, loopK_nx, loopK_ct, loopK_bk, loopK_rt, for0, forN, loopF_nx, loopF_ct, loopF_bk, loopF_rt, loopF_ex, sWhile_w, nLc_w, lcB_ok, lc0, lcN, lcT_t, lcT_f, lcE_v, wipeE0, wipeE1, sTry_w, tryK_nx, tryK_rt, suiteK_nx, suiteK_rt, wipe0, wipe_v, wipe_n, wipe_o, call_w, callK_nx, callK_rt, callK_ex, vals0, vals1, List.length_cons, List.length_nil, List.replicate_succ, List.replicate_zero, List.cons_append, List.nil_append, List.getElem?_cons_zero, List.getElem?_cons_succ, List.set_cons_zero, List.set_cons_succ, Nat.reduceSub, Nat.reduceAdd, Nat.zero_add, Bool.not_true, Bool.not_false, Bool.and_self, Bool.and_true, Bool.and_false, List.length_map, h1, Int.lt_irrefl, decide_true, decide_false, beq_self_eq_true]
      have := last [.val .hand, .val (.int many), .none, .none] i hi0 hi6 rfl rfl
      simp only [bind_w, bindK_ok, bindK_ex, ret_w, fail_w, eVar_w, varK_v, eC_w, eUn_w, eBin_w, evs0_w, evs1_w, eTup_w, eLst_w, eCall_w, eIf_w, ifE_t, ifE_f, eAnd_w, andE_t, andE_f, eOr_w, orE_t, orE_f, eNot_w, eChain_w, chainM_w, eJs_w, js0, js1, chainK_t, chainK_f, eNew_w, eHand_w, handK_ok, eXf_w, tVal_w, tTru_w, tNot_w, tYes_w, tAnd_w, tOr_w, andT_t, andT_f, orT_t, orT_f, boolOf_w, truth_bl, truth_int, truth_non, truth_lst, truth_tup, truth_frz, add_int, sub_int, neg_int, lt_int, le_int, gt_int, ge_int, isNon_w, notNon_w, is_w, isNot_w, int_w, abs_w, gcd_w, tup_w, tupt_w, list_w, listl_w, len_lst, len_tup, len_frz, un1_w, bin2_w, eq_int, ne_int, eq_pair, ne_pair, ix_lst, ix_frz, ix_tup, ix_hand, itK_v, item0, item1, item2, item3, isi_int_i, isi_int_b, isi_int_n, isi_int_s, isi_int_t, isi_int_l, isi_int_f, isi_int_h, isi_bool_i, isi_bool_b, isi_bool_n, isi_bool_s, isi_bool_t, isi_bool_l, isi_bool_f, isi_bool_h, isi_str_i, isi_str_b, isi_str_n, isi_str_s, isi_str_t, isi_str_l, isi_str_f, isi_str_h, isi_tuple_i, isi_tuple_b, isi_tuple_n, isi_tuple_s, isi_tuple_t, isi_tuple_l, isi_tuple_f, isi_tuple_h, isi_list_i, isi_list_b, isi_list_n, isi_list_s, isi_list_t, isi_list_l, isi_list_f, isi_list_h, isi_dict_i, isi_dict_b, isi_dict_n, isi_dict_s, isi_dict_t, isi_dict_l, isi_dict_f, isi_dict_h, sSeq_w, seqK_nx, seqK_rt, seqK_bk, seqK_ct, seqK_ex, onK_ok, onK_ex, sNext_w, sSet_w, sOwn_w, sFrz_w, frzK_v, sApp_w, sExpr_w, sRet_w, sRetN_w, sIf_w, ifK_t, ifK_f, sBrk_w, sCnt_w, sPar_w, parK_v, sUnp_w, unpK_2, unpK_3, unpK_4, sHSet_w, hsK_0, hsK_1, hsK_2, hsK_3, sRaise_w, sFor_w, iSeq_w, seqOf_lst, seqOf_tup, seqOf_frz, iRng_w, loopK_nx, loopK_ct, loopK_bk, loopK_rt, for0, forN, loopF_nx, loopF_ct, loopF_bk, loopF_rt, loopF_ex, sWhile_w, nLc_w, lcB_ok, lc0, lcN, lcT_t, lcT_f, lcE_v, wipeE0, wipeE1, sTry_w, tryK_nx, tryK_rt, suiteK_nx, suiteK_rt, wipe0, wipe_v, wipe_n, wipe_o, call_w, callK_nx, callK_rt, callK_ex, vals0, vals1, List.length_cons, List.length_nil, List.replicate_succ, List.replicate_zero, List.cons_append, List.nil_append, List.getElem?_cons_zero, List.getElem?_cons_succ, List.set_cons_zero, List.set_cons_succ, Nat.reduceSub, Nat.reduceAdd, Nat.zero_add, Bool.not_true, Bool.not_false, Bool.and_self, Bool.and_true, Bool.and_false] at this
      exact this
  · have hp : 0 < rest := by omega
    have hb : (rest == 0) = false := by simpa using h2
    simp only [bind_w, bindK_ok, bindK_ex, ret_w, fail_w, eVar_w, varK_v, eC_w, eUn_w, eBin_w, evs0_w, evs1_w, eTup_w, eLst_w, eCall_w, eIf_w, ifE_t, ifE_f, eAnd_w, andE_t, andE_f, eOr_w, orE_t, orE_f, eNot_w, eChain_w, chainM_w, eJs_w, js0, js1, chainK_t, chainK_f, eNew_w, eHand_w, handK_ok, eXf_w, tVal_w, tTru_w, tNot_w, tYes_w, tAnd_w, tOr_w, andT_t, andT_f, orT_t, orT_f, boolOf_w, truth_bl, truth_int, truth_non, truth_lst, truth_tup, truth_frz, add_int, sub_int, neg_int, lt_int, le_int, gt_int, ge_int, isNon_w, notNon_w, is_w, isNot_w, int_w, abs_w, gcd_w, tup_w, tupt_w, list_w, listl_w, len_lst, len_tup, len_frz, un1_w, bin2_w, eq_int, ne_int, eq_pair, ne_pair, ix_lst, ix_frz, ix_tup, ix_hand, itK_v, item0, item1, item2, item3, isi_int_i, isi_int_b, isi_int_n, isi_int_s, isi_int_t, isi_int_l, isi_int_f, isi_int_h, isi_bool_i, isi_bool_b, isi_bool_n, isi_bool_s, isi_bool_t, isi_bool_l, isi_bool_f, isi_bool_h, isi_str_i, isi_str_b, isi_str_n, isi_str_s, isi_str_t, isi_str_l, isi_str_f, isi_str_h, isi_tuple_i, isi_tuple_b, isi_tuple_n, isi_tuple_s, isi_tuple_t, isi_tuple_l, isi_tuple_f, isi_tuple_h, isi_list_i, isi_list_b, isi_list_n, isi_list_s, isi_list_t, isi_list_l, isi_list_f, isi_list_h, isi_dict_i, isi_dict_b, isi_dict_n, isi_dict_s, isi_dict_t, isi_dict_l, isi_dict_f, isi_dict_h, sSeq_w, seqK_nx, seqK_rt, seqK_bk, seqK_ct, seqK_ex, onK_ok, onK_ex, sNext_w, sSet_w, sOwn_w, sFrz_w, frzK_v, sApp_w, sExpr_w, sRet_w, sRetN_w, sIf_w, ifK_t, ifK_f, sBrk_w, sCnt_w, sPar_w, parK_v, sUnp_w, unpK_2, unpK_3, unpK_4, sHSet_w, hsK_0, hsK_1, hsK_2, hsK_3, sRaise_w, sFor_w, iSeq_w, seqOf_lst, seqOf_tup, seqOf_frz, iRng_w, loopK_nx, loopK_ct, loopK_bk, loopK_rt, for0, forN, loopF_nx, loopF_ct, loopF_bk, loopF_rt, loopF_ex, sWhile_w, nLc_w, lcB_ok, lc0, lcN, lcT_t, lcT_f, lcE_v, wipeE0, wipeE1, sTry_w, tryK_nx, tryK_rt, suiteK_nx, suiteK_rt, wipe0, wipe_v, wipe_n, wipe_o, call_w, callK_nx, callK_rt, callK_ex, vals0, vals1, List.length_cons, List.length_nil, List.replicate_succ, List.replicate_zero, List.cons_append, List.nil_append, List.getElem?_cons_zero, List.getElem?_cons_succ, List.set_cons_zero, List.set_cons_succ, Nat.reduceSub, Nat.reduceAdd, Nat.zero_add, Bool.not_true, Bool.not_false, Bool.and_self, Bool.and_true, Bool.and_false, hb, hp, decide_true, fdiv_int m0 hk hk9, mod_int m0]
    exact ⟨_, _, rfl, (bd rest).1, (bd rest).2, cs, i, _, total, rfl, hc, hl, hi0, hi6, Int.fdiv_nonneg (by omega) (by omega), ht0, ht⟩
theorem handL : ∀ (ns cs : List Int) (sc : Slot) (t : Int) (s3 : Slot), (∀ c ∈ cs, 0 ≤ c) → cs.length + ns.length ≤ 63 → 0 ≤ t → t < 2147483587 → ∃ (cs' : List Int) (t' : Int) (s3' : Slot), forL (gN 3) B__law_hand_0 (ns.map D.int) [sc, .val (.int t), .own (cs.map D.int), s3] w = .nx [sc, .val (.int t'), .own (cs'.map D.int), s3'] w ∧ (∀ c ∈ cs', 0 ≤ c) ∧ cs'.length ≤ 63 ∧ 0 ≤ t' ∧ t' < 2147483587
  | [], cs, sc, t, s3, hc, hl, h0, h1 => ⟨cs, t, s3, rfl, hc, by simpa using hl, h0, h1⟩
  | n :: ns, cs, sc, t, s3, hc, hl, h0, h1 => by
    have st : Sz 40 t := sz40 h0 (by omega)
    have s2 : Sz 20 1021 := by unfold Sz; decide
    have e : (cs.map D.int) ++ [D.int (if n < 0 then -n else n)] = (cs ++ [if n < 0 then -n else n]).map D.int := by simp
    have hl' : (cs.map D.int).length < line := by rw [List.length_map]; unfold line; simp only [List.length_cons] at hl; omega
    obtain ⟨cs', t', s3', e1, e2, e3, e4, e5⟩ := handL ns (cs ++ [if n < 0 then -n else n]) sc ((t * 1021 + n).fmod 2147483587) (.val (.int n)) (fun c hm => by
      rcases List.mem_append.mp hm with hm | hm
      · exact hc c hm
      · rw [List.mem_singleton.mp hm]; split <;> omega) (by simp only [List.length_append, List.length_cons, List.length_nil] at hl ⊢; omega) (fmod_bd (by decide)).1 (fmod_bd (by decide)).2
    refine ⟨cs', t', s3', ?_, e2, e3, e4, e5⟩
    rw [List.map_cons]
    simp only [bind_w, bindK_ok, bindK_ex, ret_w, fail_w, eVar_w, varK_v, eC_w, eUn_w, eBin_w, evs0_w, evs1_w, eTup_w, eLst_w, eCall_w, eIf_w, ifE_t, ifE_f, eAnd_w, andE_t, andE_f, eOr_w, orE_t, orE_f, eNot_w, eChain_w, chainM_w, eJs_w, js0, js1, chainK_t, chainK_f, eNew_w, eHand_w, handK_ok, eXf_w, tVal_w, tTru_w, tNot_w, tYes_w, tAnd_w, tOr_w, andT_t, andT_f, orT_t, orT_f, boolOf_w, truth_bl, truth_int, truth_non, truth_lst, truth_tup, truth_frz, add_int, sub_int, neg_int, lt_int, le_int, gt_int, ge_int, isNon_w, notNon_w, is_w, isNot_w, int_w, abs_w, gcd_w, tup_w, tupt_w, list_w, listl_w, len_lst, len_tup, len_frz, un1_w, bin2_w, eq_int, ne_int, eq_pair, ne_pair, ix_lst, ix_frz, ix_tup, ix_hand, itK_v, item0, item1, item2, item3, isi_int_i, isi_int_b, isi_int_n, isi_int_s, isi_int_t, isi_int_l, isi_int_f, isi_int_h, isi_bool_i, isi_bool_b, isi_bool_n, isi_bool_s, isi_bool_t, isi_bool_l, isi_bool_f, isi_bool_h, isi_str_i, isi_str_b, isi_str_n, isi_str_s, isi_str_t, isi_str_l, isi_str_f, isi_str_h, isi_tuple_i, isi_tuple_b, isi_tuple_n, isi_tuple_s, isi_tuple_t, isi_tuple_l, isi_tuple_f, isi_tuple_h, isi_list_i, isi_list_b, isi_list_n, isi_list_s, isi_list_t, isi_list_l, isi_list_f, isi_list_h, isi_dict_i, isi_dict_b, isi_dict_n, isi_dict_s, isi_dict_t, isi_dict_l, isi_dict_f, isi_dict_h, sSeq_w, seqK_nx, seqK_rt, seqK_bk, seqK_ct, seqK_ex, onK_ok, onK_ex, sNext_w, sSet_w, sOwn_w, sFrz_w, frzK_v, sApp_w, sExpr_w, sRet_w, sRetN_w, sIf_w, ifK_t, ifK_f, sBrk_w, sCnt_w, sPar_w, parK_v, sUnp_w, unpK_2, unpK_3, unpK_4, sHSet_w, hsK_0, hsK_1, hsK_2, hsK_3, sRaise_w, sFor_w, iSeq_w, seqOf_lst, seqOf_tup, seqOf_frz, iRng_w, loopK_nx, loopK_ct, loopK_bk, loopK_rt, for0, forN, loopF_nx, loopF_ct, loopF_bk, loopF_rt, loopF_ex, sWhile_w, nLc_w, lcB_ok, lc0, lcN, lcT_t, lcT_f, lcE_v, wipeE0, wipeE1, sTry_w, tryK_nx, tryK_rt, suiteK_nx, suiteK_rt, wipe0, wipe_v, wipe_n, wipe_o, call_w, callK_nx, callK_rt, callK_ex, vals0, vals1, List.length_cons, List.length_nil, List.replicate_succ, List.replicate_zero, List.cons_append, List.nil_append, List.getElem?_cons_zero, List.getElem?_cons_succ, List.set_cons_zero, List.set_cons_succ, Nat.reduceSub, Nat.reduceAdd, Nat.zero_add, Bool.not_true, Bool.not_false, Bool.and_self, Bool.and_true, Bool.and_false, B__law_hand_0_w, mul_int st s2, mod_int (show (2147483587 : Int) ≠ 0 by decide), appK_v 2 _ hl', e, e1]
theorem hand_w (ns : List Int) (hl : ns.length ≤ 63) : ∃ w', F__law_hand [.frz (ns.map D.int)] none = .ok .hand w' ∧ HandI w' := by
  obtain ⟨cs', t', s3', e1, e2, e3, e4, e5⟩ := handL (w := none) ns [] (.val (.frz (ns.map D.int))) ((ns.length : Int) + 53) .none (fun c h => by cases h) (by simpa using hl) (by omega) (by omega)
  unfold F__law_hand
  simp only [bind_w, bindK_ok, bindK_ex, ret_w, fail_w, eVar_w, varK_v, eC_w, eUn_w, eBin_w, evs0_w, evs1_w, eTup_w, eLst_w, eCall_w, eIf_w, ifE_t, ifE_f, eAnd_w, andE_t, andE_f, eOr_w, orE_t, orE_f, eNot_w, eChain_w, chainM_w, eJs_w, js0, js1, chainK_t, chainK_f, eNew_w, eHand_w, handK_ok, eXf_w, tVal_w, tTru_w, tNot_w, tYes_w, tAnd_w, tOr_w, andT_t, andT_f, orT_t, orT_f, boolOf_w, truth_bl, truth_int, truth_non, truth_lst, truth_tup, truth_frz, add_int, sub_int, neg_int, lt_int, le_int, gt_int, ge_int, isNon_w, notNon_w, is_w, isNot_w, int_w, abs_w, gcd_w, tup_w, tupt_w, list_w, listl_w, len_lst, len_tup, len_frz, un1_w, bin2_w, eq_int, ne_int, eq_pair, ne_pair, ix_lst, ix_frz, ix_tup, ix_hand, itK_v, item0, item1, item2, item3, isi_int_i, isi_int_b, isi_int_n, isi_int_s, isi_int_t, isi_int_l, isi_int_f, isi_int_h, isi_bool_i, isi_bool_b, isi_bool_n, isi_bool_s, isi_bool_t, isi_bool_l, isi_bool_f, isi_bool_h, isi_str_i, isi_str_b, isi_str_n, isi_str_s, isi_str_t, isi_str_l, isi_str_f, isi_str_h, isi_tuple_i, isi_tuple_b, isi_tuple_n, isi_tuple_s, isi_tuple_t, isi_tuple_l, isi_tuple_f, isi_tuple_h, isi_list_i, isi_list_b, isi_list_n, isi_list_s, isi_list_t, isi_list_l, isi_list_f, isi_list_h, isi_dict_i, isi_dict_b, isi_dict_n, isi_dict_s, isi_dict_t, isi_dict_l, isi_dict_f, isi_dict_h, sSeq_w, seqK_nx, seqK_rt, seqK_bk, seqK_ct, seqK_ex, onK_ok, onK_ex, sNext_w, sSet_w, sOwn_w, sFrz_w, frzK_v, sApp_w, sExpr_w, sRet_w, sRetN_w, sIf_w, ifK_t, ifK_f, sBrk_w, sCnt_w, sPar_w, parK_v, sUnp_w, unpK_2, unpK_3, unpK_4, sHSet_w, hsK_0, hsK_1, hsK_2, hsK_3, sRaise_w, sFor_w, iSeq_w, seqOf_lst, seqOf_tup, seqOf_frz, iRng_w, loopK_nx, loopK_ct, loopK_bk, loopK_rt, for0, forN, loopF_nx, loopF_ct, loopF_bk, loopF_rt, loopF_ex, sWhile_w, nLc_w, lcB_ok, lc0, lcN, lcT_t, lcT_f, lcE_v, wipeE0, wipeE1, sTry_w, tryK_nx, tryK_rt, suiteK_nx, suiteK_rt, wipe0, wipe_v, wipe_n, wipe_o, call_w, callK_nx, callK_rt, callK_ex, vals0, vals1, List.length_cons, List.length_nil, List.replicate_succ, List.replicate_zero, List.cons_append, List.nil_append, List.getElem?_cons_zero, List.getElem?_cons_succ, List.set_cons_zero, List.set_cons_succ, Nat.reduceSub, Nat.reduceAdd, Nat.zero_add, Bool.not_true, Bool.not_false, Bool.and_self, Bool.and_true, Bool.and_false, List.length_map, List.map_nil]
  rw [List.map_nil] at e1
  rw [e1]
  simp only [bind_w, bindK_ok, bindK_ex, ret_w, fail_w, eVar_w, varK_v, eC_w, eUn_w, eBin_w, evs0_w, evs1_w, eTup_w, eLst_w, eCall_w, eIf_w, ifE_t, ifE_f, eAnd_w, andE_t, andE_f, eOr_w, orE_t, orE_f, eNot_w, eChain_w, chainM_w, eJs_w, js0, js1, chainK_t, chainK_f, eNew_w, eHand_w, handK_ok, eXf_w, tVal_w, tTru_w, tNot_w, tYes_w, tAnd_w, tOr_w, andT_t, andT_f, orT_t, orT_f, boolOf_w, truth_bl, truth_int, truth_non, truth_lst, truth_tup, truth_frz, add_int, sub_int, neg_int, lt_int, le_int, gt_int, ge_int, isNon_w, notNon_w, is_w, isNot_w, int_w, abs_w, gcd_w, tup_w, tupt_w, list_w, listl_w, len_lst, len_tup, len_frz, un1_w, bin2_w, eq_int, ne_int, eq_pair, ne_pair, ix_lst, ix_frz, ix_tup, ix_hand, itK_v, item0, item1, item2, item3, isi_int_i, isi_int_b, isi_int_n, isi_int_s, isi_int_t, isi_int_l, isi_int_f, isi_int_h, isi_bool_i, isi_bool_b, isi_bool_n, isi_bool_s, isi_bool_t, isi_bool_l, isi_bool_f, isi_bool_h, isi_str_i, isi_str_b, isi_str_n, isi_str_s, isi_str_t, isi_str_l, isi_str_f, isi_str_h, isi_tuple_i, isi_tuple_b, isi_tuple_n, isi_tuple_s, isi_tuple_t, isi_tuple_l, isi_tuple_f, isi_tuple_h, isi_list_i, isi_list_b, isi_list_n, isi_list_s, isi_list_t, isi_list_l, isi_list_f, isi_list_h, isi_dict_i, isi_dict_b, isi_dict_n, isi_dict_s, isi_dict_t, isi_dict_l, isi_dict_f, isi_dict_h, sSeq_w, seqK_nx, seqK_rt, seqK_bk, seqK_ct, seqK_ex, onK_ok, onK_ex, sNext_w, sSet_w, sOwn_w, sFrz_w, frzK_v, sApp_w, sExpr_w, sRet_w, sRetN_w, sIf_w, ifK_t, ifK_f, sBrk_w, sCnt_w, sPar_w, parK_v, sUnp_w, unpK_2, unpK_3, unpK_4, sHSet_w, hsK_0, hsK_1, hsK_2, hsK_3, sRaise_w, sFor_w, iSeq_w, seqOf_lst, seqOf_tup, seqOf_frz, iRng_w, loopK_nx, loopK_ct, loopK_bk, loopK_rt, for0, forN, loopF_nx, loopF_ct, loopF_bk, loopF_rt, loopF_ex, sWhile_w, nLc_w, lcB_ok, lc0, lcN, lcT_t, lcT_f, lcE_v, wipeE0, wipeE1, sTry_w, tryK_nx, tryK_rt, suiteK_nx, suiteK_rt, wipe0, wipe_v, wipe_n, wipe_o, call_w, callK_nx, callK_rt, callK_ex, vals0, vals1, List.length_cons, List.length_nil, List.replicate_succ, List.replicate_zero, List.cons_append, List.nil_append, List.getElem?_cons_zero, List.getElem?_cons_succ, List.set_cons_zero, List.set_cons_succ, Nat.reduceSub, Nat.reduceAdd, Nat.zero_add, Bool.not_true, Bool.not_false, Bool.and_self, Bool.and_true, Bool.and_false]
  exact ⟨_, rfl, cs', 0, 0, t', rfl, e2, e3, by decide, by decide, by decide, e4, e5⟩
--@lowest
theorem lowest_q {a b : Int} {k : Nat} (hb0 : b ≠ 0) (hb : Sz k b) (hk : k < 9000) : F__lowest [.int a, .int b] w = .ok (rq (Rat.divInt a b)) w := by
  rw [← rq_low hb0]
  unfold F__lowest lowA lowB
  by_cases h : b < 0
  · simp only [bind_w, bindK_ok, bindK_ex, ret_w, fail_w, eVar_w, varK_v, eC_w, eUn_w, eBin_w, evs0_w, evs1_w, eTup_w, eLst_w, eCall_w, eIf_w, ifE_t, ifE_f, eAnd_w, andE_t, andE_f, eOr_w, orE_t, orE_f, eNot_w, eChain_w, chainM_w, eJs_w, js0, js1, chainK_t, chainK_f, eNew_w, eHand_w, handK_ok, eXf_w, tVal_w, tTru_w, tNot_w, tYes_w, tAnd_w, tOr_w, andT_t, andT_f, orT_t, orT_f, boolOf_w, truth_bl, truth_int, truth_non, truth_lst, truth_tup, truth_frz, add_int, sub_int, neg_int, lt_int, le_int, gt_int, ge_int, isNon_w, notNon_w, is_w, isNot_w, int_w, abs_w, gcd_w, tup_w, tupt_w, list_w, listl_w, len_lst, len_tup, len_frz, un1_w, bin2_w, eq_int, ne_int, eq_pair, ne_pair, ix_lst, ix_frz, ix_tup, ix_hand, itK_v, item0, item1, item2, item3, isi_int_i, isi_int_b, isi_int_n, isi_int_s, isi_int_t, isi_int_l, isi_int_f, isi_int_h, isi_bool_i, isi_bool_b, isi_bool_n, isi_bool_s, isi_bool_t, isi_bool_l, isi_bool_f, isi_bool_h, isi_str_i, isi_str_b, isi_str_n, isi_str_s, isi_str_t, isi_str_l, isi_str_f, isi_str_h, isi_tuple_i, isi_tuple_b, isi_tuple_n, isi_tuple_s, isi_tuple_t, isi_tuple_l, isi_tuple_f, isi_tuple_h, isi_list_i, isi_list_b, isi_list_n, isi_list_s, isi_list_t, isi_list_l, isi_list_f, isi_list_h, isi_dict_i, isi_dict_b, isi_dict_n, isi_dict_s, isi_dict_t, isi_dict_l, isi_dict_f, isi_dict_h, sSeq_w, seqK_nx, seqK_rt, seqK_bk, seqK_ct, seqK_ex, onK_ok, onK_ex, sNext_w, sSet_w, sOwn_w, sFrz_w, frzK_v, sApp_w, sExpr_w, sRet_w, sRetN_w, sIf_w, ifK_t, ifK_f, sBrk_w, sCnt_w, sPar_w, parK_v, sUnp_w, unpK_2, unpK_3, unpK_4, sHSet_w, hsK_0, hsK_1, hsK_2, hsK_3, sRaise_w, sFor_w, iSeq_w, seqOf_lst, seqOf_tup, seqOf_frz, iRng_w, loopK_nx, loopK_ct, loopK_bk, loopK_rt, for0, forN, loopF_nx, loopF_ct, loopF_bk, loopF_rt, loopF_ex, sWhile_w, nLc_w, lcB_ok, lc0, lcN, lcT_t, lcT_f, lcE_v, wipeE0, wipeE1, sTry_w, tryK_nx, tryK_rt, suiteK_nx, suiteK_rt, wipe0, wipe_v, wipe_n, wipe_o, call_w, callK_nx, callK_rt, callK_ex, vals0, vals1, List.length_cons, List.length_nil, List.replicate_succ, List.replicate_zero, List.cons_append, List.nil_append, List.getElem?_cons_zero, List.getElem?_cons_succ, List.set_cons_zero, List.set_cons_succ, Nat.reduceSub, Nat.reduceAdd, Nat.zero_add, Bool.not_true, Bool.not_false, Bool.and_self, Bool.and_true, Bool.and_false, h, decide_true, if_true, fdiv_int (gcd_ne (a := -a) (b := -b) (by omega)) (gcd_sz (by omega) hb.neg) hk]
    simp only [Int.natAbs_neg]
  · simp only [bind_w, bindK_ok, bindK_ex, ret_w, fail_w, eVar_w, varK_v, eC_w, eUn_w, eBin_w, evs0_w, evs1_w, eTup_w, eLst_w, eCall_w, eIf_w, ifE_t, ifE_f, eAnd_w, andE_t, andE_f, eOr_w, orE_t, orE_f, eNot_w, eChain_w, chainM_w, eJs_w, js0, js1, chainK_t, chainK_f, eNew_w, eHand_w, handK_ok, eXf_w, tVal_w, tTru_w, tNot_w, tYes_w, tAnd_w, tOr_w, andT_t, andT_f, orT_t, orT_f, boolOf_w, truth_bl, truth_int, truth_non, truth_lst, truth_tup, truth_frz, add_int, sub_int, neg_int, lt_int, le_int, gt_int, ge_int, isNon_w, notNon_w, is_w, isNot_w, int_w, abs_w, gcd_w, tup_w, tupt_w, list_w, listl_w, len_lst, len_tup, len_frz, un1_w, bin2_w, eq_int, ne_int, eq_pair, ne_pair, ix_lst, ix_frz, ix_tup, ix_hand, itK_v, item0, item1, item2, item3, isi_int_i, isi_int_b, isi_int_n, isi_int_s, isi_int_t, isi_int_l, isi_int_f, isi_int_h, isi_bool_i, isi_bool_b, isi_bool_n, isi_bool_s, isi_bool_t, isi_bool_l, isi_bool_f, isi_bool_h, isi_str_i, isi_str_b, isi_str_n, isi_str_s, isi_str_t, isi_str_l, isi_str_f, isi_str_h, isi_tuple_i, isi_tuple_b, isi_tuple_n, isi_tuple_s, isi_tuple_t, isi_tuple_l, isi_tuple_f, isi_tuple_h, isi_list_i, isi_list_b, isi_list_n, isi_list_s, isi_list_t, isi_list_l, isi_list_f, isi_list_h, isi_dict_i, isi_dict_b, isi_dict_n, isi_dict_s, isi_dict_t, isi_dict_l, isi_dict_f, isi_dict_h, sSeq_w, seqK_nx, seqK_rt, seqK_bk, seqK_ct, seqK_ex, onK_ok, onK_ex, sNext_w, sSet_w, sOwn_w, sFrz_w, frzK_v, sApp_w, sExpr_w, sRet_w, sRetN_w, sIf_w, ifK_t, ifK_f, sBrk_w, sCnt_w, sPar_w, parK_v, sUnp_w, unpK_2, unpK_3, unpK_4, sHSet_w, hsK_0, hsK_1, hsK_2, hsK_3, sRaise_w, sFor_w, iSeq_w, seqOf_lst, seqOf_tup, seqOf_frz, iRng_w, loopK_nx, loopK_ct, loopK_bk, loopK_rt, for0, forN, loopF_nx, loopF_ct, loopF_bk, loopF_rt, loopF_ex, sWhile_w, nLc_w, lcB_ok, lc0, lcN, lcT_t, lcT_f, lcE_v, wipeE0, wipeE1, sTry_w, tryK_nx, tryK_rt, suiteK_nx, suiteK_rt, wipe0, wipe_v, wipe_n, wipe_o, call_w, callK_nx, callK_rt, callK_ex, vals0, vals1, List.length_cons, List.length_nil, List.replicate_succ, List.replicate_zero, List.cons_append, List.nil_append, List.getElem?_cons_zero, List.getElem?_cons_succ, List.set_cons_zero, List.set_cons_succ, Nat.reduceSub, Nat.reduceAdd, Nat.zero_add, Bool.not_true, Bool.not_false, Bool.and_self, Bool.and_true, Bool.and_false, h, decide_false, if_false, fdiv_int (gcd_ne (a := a) hb0) (gcd_sz hb0 hb) hk]
--@gcd
theorem gcdL : ∀ (n a b : Nat), b < n → whileL (tTru (eVar 1)) B__law_gcd_0 n [.val (.int a), .val (.int b)] w = .nx [.val (.int (Nat.gcd a b : Nat)), .val (.int 0)] w
  | 0, _, _, h => by omega
  | n + 1, a, b, h => by
    rw [while_w]
    by_cases hb : b = 0
    · subst hb
      have e : (((0 : Nat) : Int) != 0) = false := by decide
      simp only [bind_w, bindK_ok, bindK_ex, ret_w, fail_w, eVar_w, varK_v, eC_w, eUn_w, eBin_w, evs0_w, evs1_w, eTup_w, eLst_w, eCall_w, eIf_w, ifE_t, ifE_f, eAnd_w, andE_t, andE_f, eOr_w, orE_t, orE_f, eNot_w, eChain_w, chainM_w, eJs_w, js0, js1, chainK_t, chainK_f, eNew_w, eHand_w, handK_ok, eXf_w, tVal_w, tTru_w, tNot_w, tYes_w, tAnd_w, tOr_w, andT_t, andT_f, orT_t, orT_f, boolOf_w, truth_bl, truth_int, truth_non, truth_lst, truth_tup, truth_frz, add_int, sub_int, neg_int, lt_int, le_int, gt_int, ge_int, isNon_w, notNon_w, is_w, isNot_w, int_w, abs_w, gcd_w, tup_w, tupt_w, list_w, listl_w, len_lst, len_tup, len_frz, un1_w, bin2_w, eq_int, ne_int, eq_pair, ne_pair, ix_lst, ix_frz, ix_tup, ix_hand, itK_v, item0, item1, item2, item3, isi_int_i, isi_int_b, isi_int_n, isi_int_s, isi_int_t, isi_int_l, isi_int_f, isi_int_h, isi_bool_i, isi_bool_b, isi_bool_n, isi_bool_s, isi_bool_t, isi_bool_l, isi_bool_f, isi_bool_h, isi_str_i, isi_str_b, isi_str_n, isi_str_s, isi_str_t, isi_str_l, isi_str_f, isi_str_h, isi_tuple_i, isi_tuple_b, isi_tuple_n, isi_tuple_s, isi_tuple_t, isi_tuple_l, isi_tuple_f, isi_tuple_h, isi_list_i, isi_list_b, isi_list_n, isi_list_s, isi_list_t, isi_list_l, isi_list_f, isi_list_h, isi_dict_i, isi_dict_b, isi_dict_n, isi_dict_s, isi_dict_t, isi_dict_l, isi_dict_f, isi_dict_h, sSeq_w, seqK_nx, seqK_rt, seqK_bk, seqK_ct, seqK_ex, onK_ok, onK_ex, sNext_w, sSet_w, sOwn_w, sFrz_w, frzK_v, sApp_w, sExpr_w, sRet_w, sRetN_w, sIf_w, ifK_t, ifK_f, sBrk_w, sCnt_w, sPar_w, parK_v, sUnp_w, unpK_2, unpK_3, unpK_4, sHSet_w, hsK_0, hsK_1, hsK_2, hsK_3, sRaise_w, sFor_w, iSeq_w, seqOf_lst, seqOf_tup, seqOf_frz, iRng_w, loopK_nx, loopK_ct, loopK_bk, loopK_rt, for0, forN, loopF_nx, loopF_ct, loopF_bk, loopF_rt, loopF_ex, sWhile_w, nLc_w, lcB_ok, lc0, lcN, lcT_t, lcT_f, lcE_v, wipeE0, wipeE1, sTry_w, tryK_nx, tryK_rt, suiteK_nx, suiteK_rt, wipe0, wipe_v, wipe_n, wipe_o, call_w, callK_nx, callK_rt, callK_ex, vals0, vals1, List.length_cons, List.length_nil, List.replicate_succ, List.replicate_zero, List.cons_append, List.nil_append, List.getElem?_cons_zero, List.getElem?_cons_succ, List.set_cons_zero, List.set_cons_succ, Nat.reduceSub, Nat.reduceAdd, Nat.zero_add, Bool.not_true, Bool.not_false, Bool.and_self, Bool.and_true, Bool.and_false, e, whK_f]
      rw [Nat.gcd_zero_right]
      all_goals rfl
    · have e : (((b : Nat) : Int) != 0) = true := by simp [hb]
      have hb' : ((b : Nat) : Int) ≠ 0 := by omega
      simp only [bind_w, bindK_ok, bindK_ex, ret_w, fail_w, eVar_w, varK_v, eC_w, eUn_w, eBin_w, evs0_w, evs1_w, eTup_w, eLst_w, eCall_w, eIf_w, ifE_t, ifE_f, eAnd_w, andE_t, andE_f, eOr_w, orE_t, orE_f, eNot_w, eChain_w, chainM_w, eJs_w, js0, js1, chainK_t, chainK_f, eNew_w, eHand_w, handK_ok, eXf_w, tVal_w, tTru_w, tNot_w, tYes_w, tAnd_w, tOr_w, andT_t, andT_f, orT_t, orT_f, boolOf_w, truth_bl, truth_int, truth_non, truth_lst, truth_tup, truth_frz, add_int, sub_int, neg_int, lt_int, le_int, gt_int, ge_int, isNon_w, notNon_w, is_w, isNot_w, int_w, abs_w, gcd_w, tup_w, tupt_w, list_w, listl_w, len_lst, len_tup, len_frz, un1_w, bin2_w, eq_int, ne_int, eq_pair, ne_pair, ix_lst, ix_frz, ix_tup, ix_hand, itK_v, item0, item1, item2, item3, isi_int_i, isi_int_b, isi_int_n, isi_int_s, isi_int_t, isi_int_l, isi_int_f, isi_int_h, isi_bool_i, isi_bool_b, isi_bool_n, isi_bool_s, isi_bool_t, isi_bool_l, isi_bool_f, isi_bool_h, isi_str_i, isi_str_b, isi_str_n, isi_str_s, isi_str_t, isi_str_l, isi_str_f, isi_str_h, isi_tuple_i, isi_tuple_b, isi_tuple_n, isi_tuple_s, isi_tuple_t, isi_tuple_l, isi_tuple_f, isi_tuple_h, isi_list_i, isi_list_b, isi_list_n, isi_list_s, isi_list_t, isi_list_l, isi_list_f, isi_list_h, isi_dict_i, isi_dict_b, isi_dict_n, isi_dict_s, isi_dict_t, isi_dict_l, isi_dict_f, isi_dict_h, sSeq_w, seqK_nx, seqK_rt, seqK_bk, seqK_ct, seqK_ex, onK_ok, onK_ex, sNext_w, sSet_w, sOwn_w, sFrz_w, frzK_v, sApp_w, sExpr_w, sRet_w, sRetN_w, sIf_w, ifK_t, ifK_f, sBrk_w, sCnt_w, sPar_w, parK_v, sUnp_w, unpK_2, unpK_3, unpK_4, sHSet_w, hsK_0, hsK_1, hsK_2, hsK_3, sRaise_w, sFor_w, iSeq_w, seqOf_lst, seqOf_tup, seqOf_frz, iRng_w, loopK_nx, loopK_ct, loopK_bk, loopK_rt, for0, forN, loopF_nx, loopF_ct, loopF_bk, loopF_rt, loopF_ex, sWhile_w, nLc_w, lcB_ok, lc0, lcN, lcT_t, lcT_f, lcE_v, wipeE0, wipeE1, sTry_w, tryK_nx, tryK_rt, suiteK_nx, suiteK_rt, wipe0, wipe_v, wipe_n, wipe_o, call_w, callK_nx, callK_rt, callK_ex, vals0, vals1, List.length_cons, List.length_nil, List.replicate_succ, List.replicate_zero, List.cons_append, List.nil_append, List.getElem?_cons_zero, List.getElem?_cons_succ, List.set_cons_zero, List.set_cons_succ, Nat.reduceSub, Nat.reduceAdd, Nat.zero_add, Bool.not_true, Bool.not_false, Bool.and_self, Bool.and_true, Bool.and_false, e, whK_t, B__law_gcd_0_w, mod_int hb', show ((a : Int)).fmod (b : Int) = ((a % b : Nat) : Int) from by rw [Int.fmod_eq_emod_of_nonneg _ (by omega)]; rfl]
      rw [gcdL n b (a % b) (by have := Nat.mod_lt a (Nat.pos_of_ne_zero hb); omega)]
      rw [Nat.gcd_comm b, ← Nat.gcd_rec, Nat.gcd_comm]
theorem lgcd_w (a b : Int) : F__law_gcd [.int a, .int b] w = .ok (.int (Nat.gcd a.natAbs b.natAbs : Nat)) w := by
  have e : ∀ i : Int, (if i < 0 then -i else i) = ((i.natAbs : Nat) : Int) := fun i => by split <;> omega
  unfold F__law_gcd
  simp only [bind_w, bindK_ok, bindK_ex, ret_w, fail_w, eVar_w, varK_v, eC_w, eUn_w, eBin_w, evs0_w, evs1_w, eTup_w, eLst_w, eCall_w, eIf_w, ifE_t, ifE_f, eAnd_w, andE_t, andE_f, eOr_w, orE_t, orE_f, eNot_w, eChain_w, chainM_w, eJs_w, js0, js1, chainK_t, chainK_f, eNew_w, eHand_w, handK_ok, eXf_w, tVal_w, tTru_w, tNot_w, tYes_w, tAnd_w, tOr_w, andT_t, andT_f, orT_t, orT_f, boolOf_w, truth_bl, truth_int, truth_non, truth_lst, truth_tup, truth_frz, add_int, sub_int, neg_int, lt_int, le_int, gt_int, ge_int, isNon_w, notNon_w, is_w, isNot_w, int_w, abs_w, gcd_w, tup_w, tupt_w, list_w, listl_w, len_lst, len_tup, len_frz, un1_w, bin2_w, eq_int, ne_int, eq_pair, ne_pair, ix_lst, ix_frz, ix_tup, ix_hand, itK_v, item0, item1, item2, item3, isi_int_i, isi_int_b, isi_int_n, isi_int_s, isi_int_t, isi_int_l, isi_int_f, isi_int_h, isi_bool_i, isi_bool_b, isi_bool_n, isi_bool_s, isi_bool_t, isi_bool_l, isi_bool_f, isi_bool_h, isi_str_i, isi_str_b, isi_str_n, isi_str_s, isi_str_t, isi_str_l, isi_str_f, isi_str_h, isi_tuple_i, isi_tuple_b, isi_tuple_n, isi_tuple_s, isi_tuple_t, isi_tuple_l, isi_tuple_f, isi_tuple_h, isi_list_i, isi_list_b, isi_list_n, isi_list_s, isi_list_t, isi_list_l, isi_list_f, isi_list_h, isi_dict_i, isi_dict_b, isi_dict_n, isi_dict_s, isi_dict_t, isi_dict_l, isi_dict_f, isi_dict_h, sSeq_w, seqK_nx, seqK_rt, seqK_bk, seqK_ct, seqK_ex, onK_ok, onK_ex, sNext_w, sSet_w, sOwn_w, sFrz_w, frzK_v, sApp_w, sExpr_w, sRet_w, sRetN_w, sIf_w, ifK_t, ifK_f, sBrk_w, sCnt_w, sPar_w, parK_v, sUnp_w, unpK_2, unpK_3, unpK_4, sHSet_w, hsK_0, hsK_1, hsK_2, hsK_3, sRaise_w, sFor_w, iSeq_w, seqOf_lst, seqOf_tup, seqOf_frz, iRng_w, loopK_nx, loopK_ct, loopK_bk, loopK_rt, for0, forN, loopF_nx, loopF_ct, loopF_bk, loopF_rt, loopF_ex, sWhile_w, nLc_w, lcB_ok, lc0, lcN, lcT_t, lcT_f, lcE_v, wipeE0, wipeE1, sTry_w, tryK_nx, tryK_rt, suiteK_nx, suiteK_rt, wipe0, wipe_v, wipe_n, wipe_o, call_w, callK_nx, callK_rt, callK_ex, vals0, vals1, List.length_cons, List.length_nil, List.replicate_succ, List.replicate_zero, List.cons_append, List.nil_append, List.getElem?_cons_zero, List.getElem?_cons_succ, List.set_cons_zero, List.set_cons_succ, Nat.reduceSub, Nat.reduceAdd, Nat.zero_add, Bool.not_true, Bool.not_false, Bool.and_self, Bool.and_true, Bool.and_false, e, fuel__law_gcd, Int.natAbs_natCast]
  rw [gcdL _ _ _ (Nat.lt_succ_self _)]
  simp only [bind_w, bindK_ok, bindK_ex, ret_w, fail_w, eVar_w, varK_v, eC_w, eUn_w, eBin_w, evs0_w, evs1_w, eTup_w, eLst_w, eCall_w, eIf_w, ifE_t, ifE_f, eAnd_w, andE_t, andE_f, eOr_w, orE_t, orE_f, eNot_w, eChain_w, chainM_w, eJs_w, js0, js1, chainK_t, chainK_f, eNew_w, eHand_w, handK_ok, eXf_w, tVal_w, tTru_w, tNot_w, tYes_w, tAnd_w, tOr_w, andT_t, andT_f, orT_t, orT_f, boolOf_w, truth_bl, truth_int, truth_non, truth_lst, truth_tup, truth_frz, add_int, sub_int, neg_int, lt_int, le_int, gt_int, ge_int, isNon_w, notNon_w, is_w, isNot_w, int_w, abs_w, gcd_w, tup_w, tupt_w, list_w, listl_w, len_lst, len_tup, len_frz, un1_w, bin2_w, eq_int, ne_int, eq_pair, ne_pair, ix_lst, ix_frz, ix_tup, ix_hand, itK_v, item0, item1, item2, item3, isi_int_i, isi_int_b, isi_int_n, isi_int_s, isi_int_t, isi_int_l, isi_int_f, isi_int_h, isi_bool_i, isi_bool_b, isi_bool_n, isi_bool_s, isi_bool_t, isi_bool_l, isi_bool_f, isi_bool_h, isi_str_i, isi_str_b, isi_str_n, isi_str_s, isi_str_t, isi_str_l, isi_str_f, isi_str_h, isi_tuple_i, isi_tuple_b, isi_tuple_n, isi_tuple_s, isi_tuple_t, isi_tuple_l, isi_tuple_f, isi_tuple_h, isi_list_i, isi_list_b, isi_list_n, isi_list_s, isi_list_t, isi_list_l, isi_list_f, isi_list_h, isi_dict_i, isi_dict_b, isi_dict_n, isi_dict_s, isi_dict_t, isi_dict_l, isi_dict_f, isi_dict_h, sSeq_w, seqK_nx, seqK_rt, seqK_bk, seqK_ct, seqK_ex, onK_ok, onK_ex, sNext_w, sSet_w, sOwn_w, sFrz_w, frzK_v, sApp_w, sExpr_w, sRet_w, sRetN_w, sIf_w, ifK_t, ifK_f, sBrk_w, sCnt_w, sPar_w, parK_v, sUnp_w, unpK_2, unpK_3, unpK_4, sHSet_w, hsK_0, hsK_1, hsK_2, hsK_3, sRaise_w, sFor_w, iSeq_w, seqOf_lst, seqOf_tup, seqOf_frz, iRng_w, loopK_nx, loopK_ct, loopK_bk, loopK_rt, for0, forN, loopF_nx, loopF_ct, loopF_bk, loopF_rt, loopF_ex, sWhile_w, nLc_w, lcB_ok, lc0, lcN, lcT_t, lcT_f, lcE_v, wipeE0, wipeE1, sTry_w, tryK_nx, tryK_rt, suiteK_nx, suiteK_rt, wipe0, wipe_v, wipe_n, wipe_o, call_w, callK_nx, callK_rt, callK_ex, vals0, vals1, List.length_cons, List.length_nil, List.replicate_succ, List.replicate_zero, List.cons_append, List.nil_append, List.getElem?_cons_zero, List.getElem?_cons_succ, List.set_cons_zero, List.set_cons_succ, Nat.reduceSub, Nat.reduceAdd, Nat.zero_add, Bool.not_true, Bool.not_false, Bool.and_self, Bool.and_true, Bool.and_false]
theorem ratio_q {a b : Int} {k : Nat} (hb0 : b ≠ 0) (hb : Sz k b) (hk : k < 9000) : F__law_ratio [.int a, .int b] w = .ok (rq (Rat.divInt a b)) w := by
  have g0 := gcd_ne (a := a) hb0
  have gs := gcd_sz (a := a) hb0 hb
  rw [← rq_low hb0]
  unfold F__law_ratio lowA lowB
  by_cases h : b < 0
  · simp only [bind_w, bindK_ok, bindK_ex, ret_w, fail_w, eVar_w, varK_v, eC_w, eUn_w, eBin_w, evs0_w, evs1_w, eTup_w, eLst_w, eCall_w, eIf_w, ifE_t, ifE_f, eAnd_w, andE_t, andE_f, eOr_w, orE_t, orE_f, eNot_w, eChain_w, chainM_w, eJs_w, js0, js1, chainK_t, chainK_f, eNew_w, eHand_w, handK_ok, eXf_w, tVal_w, tTru_w, tNot_w, tYes_w, tAnd_w, tOr_w, andT_t, andT_f, orT_t, orT_f, boolOf_w, truth_bl, truth_int, truth_non, truth_lst, truth_tup, truth_frz, add_int, sub_int, neg_int, lt_int, le_int, gt_int, ge_int, isNon_w, notNon_w, is_w, isNot_w, int_w, abs_w, gcd_w, tup_w, tupt_w, list_w, listl_w, len_lst, len_tup, len_frz, un1_w, bin2_w, eq_int, ne_int, eq_pair, ne_pair, ix_lst, ix_frz, ix_tup, ix_hand, itK_v, item0, item1, item2, item3, isi_int_i, isi_int_b, isi_int_n, isi_int_s, isi_int_t, isi_int_l, isi_int_f, isi_int_h, isi_bool_i, isi_bool_b, isi_bool_n, isi_bool_s, isi_bool_t, isi_bool_l, isi_bool_f, isi_bool_h, isi_str_i, isi_str_b, isi_str_n, isi_str_s, isi_str_t, isi_str_l, isi_str_f, isi_str_h, isi_tuple_i, isi_tuple_b, isi_tuple_n, isi_tuple_s, isi_tuple_t, isi_tuple_l, isi_tuple_f, isi_tuple_h, isi_list_i, isi_list_b, isi_list_n, isi_list_s, isi_list_t, isi_list_l, isi_list_f, isi_list_h, isi_dict_i, isi_dict_b, isi_dict_n, isi_dict_s, isi_dict_t, isi_dict_l, isi_dict_f, isi_dict_h, sSeq_w, seqK_nx, seqK_rt, seqK_bk, seqK_ct, seqK_ex, onK_ok, onK_ex, sNext_w, sSet_w, sOwn_w, sFrz_w, frzK_v, sApp_w, sExpr_w, sRet_w, sRetN_w, sIf_w, ifK_t, ifK_f, sBrk_w, sCnt_w, sPar_w, parK_v, sUnp_w, unpK_2, unpK_3, unpK_4, sHSet_w, hsK_0, hsK_1, hsK_2, hsK_3, sRaise_w, sFor_w, iSeq_w, seqOf_lst, seqOf_tup, seqOf_frz, iRng_w, loopK_nx, loopK_ct, loopK_bk, loopK_rt, for0, forN, loopF_nx, loopF_ct, loopF_bk, loopF_rt, loopF_ex, sWhile_w, nLc_w, lcB_ok, lc0, lcN, lcT_t, lcT_f, lcE_v, wipeE0, wipeE1, sTry_w, tryK_nx, tryK_rt, suiteK_nx, suiteK_rt, wipe0, wipe_v, wipe_n, wipe_o, call_w, callK_nx, callK_rt, callK_ex, vals0, vals1, List.length_cons, List.length_nil, List.replicate_succ, List.replicate_zero, List.cons_append, List.nil_append, List.getElem?_cons_zero, List.getElem?_cons_succ, List.set_cons_zero, List.set_cons_succ, Nat.reduceSub, Nat.reduceAdd, Nat.zero_add, Bool.not_true, Bool.not_false, Bool.and_self, Bool.and_true, Bool.and_false, lgcd_w, h, decide_true, if_true, fdiv_int (show -((Nat.gcd a.natAbs b.natAbs : Nat) : Int) ≠ 0 by omega) gs.neg hk]
    have e : ∀ x y : Int, x.fdiv (-y) = (-x).fdiv y := fun x y => by
      have := Int.neg_fdiv_neg (-x) y
      rw [Int.neg_neg] at this
      exact this
    rw [e, e]
  · simp only [bind_w, bindK_ok, bindK_ex, ret_w, fail_w, eVar_w, varK_v, eC_w, eUn_w, eBin_w, evs0_w, evs1_w, eTup_w, eLst_w, eCall_w, eIf_w, ifE_t, ifE_f, eAnd_w, andE_t, andE_f, eOr_w, orE_t, orE_f, eNot_w, eChain_w, chainM_w, eJs_w, js0, js1, chainK_t, chainK_f, eNew_w, eHand_w, handK_ok, eXf_w, tVal_w, tTru_w, tNot_w, tYes_w, tAnd_w, tOr_w, andT_t, andT_f, orT_t, orT_f, boolOf_w, truth_bl, truth_int, truth_non, truth_lst, truth_tup, truth_frz, add_int, sub_int, neg_int, lt_int, le_int, gt_int, ge_int, isNon_w, notNon_w, is_w, isNot_w, int_w, abs_w, gcd_w, tup_w, tupt_w, list_w, listl_w, len_lst, len_tup, len_frz, un1_w, bin2_w, eq_int, ne_int, eq_pair, ne_pair, ix_lst, ix_frz, ix_tup, ix_hand, itK_v, item0, item1, item2, item3, isi_int_i, isi_int_b, isi_int_n, isi_int_s, isi_int_t, isi_int_l, isi_int_f, isi_int_h, isi_bool_i, isi_bool_b, isi_bool_n, isi_bool_s, isi_bool_t, isi_bool_l, isi_bool_f, isi_bool_h, isi_str_i, isi_str_b, isi_str_n, isi_str_s, isi_str_t, isi_str_l, isi_str_f, isi_str_h, isi_tuple_i, isi_tuple_b, isi_tuple_n, isi_tuple_s, isi_tuple_t, isi_tuple_l, isi_tuple_f, isi_tuple_h, isi_list_i, isi_list_b, isi_list_n, isi_list_s, isi_list_t, isi_list_l, isi_list_f, isi_list_h, isi_dict_i, isi_dict_b, isi_dict_n, isi_dict_s, isi_dict_t, isi_dict_l, isi_dict_f, isi_dict_h, sSeq_w, seqK_nx, seqK_rt, seqK_bk, seqK_ct, seqK_ex, onK_ok, onK_ex, sNext_w, sSet_w, sOwn_w, sFrz_w, frzK_v, sApp_w, sExpr_w, sRet_w, sRetN_w, sIf_w, ifK_t, ifK_f, sBrk_w, sCnt_w, sPar_w, parK_v, sUnp_w, unpK_2, unpK_3, unpK_4, sHSet_w, hsK_0, hsK_1, hsK_2, hsK_3, sRaise_w, sFor_w, iSeq_w, seqOf_lst, seqOf_tup, seqOf_frz, iRng_w, loopK_nx, loopK_ct, loopK_bk, loopK_rt, for0, forN, loopF_nx, loopF_ct, loopF_bk, loopF_rt, loopF_ex, sWhile_w, nLc_w, lcB_ok, lc0, lcN, lcT_t, lcT_f, lcE_v, wipeE0, wipeE1, sTry_w, tryK_nx, tryK_rt, suiteK_nx, suiteK_rt, wipe0, wipe_v, wipe_n, wipe_o, call_w, callK_nx, callK_rt, callK_ex, vals0, vals1, List.length_cons, List.length_nil, List.replicate_succ, List.replicate_zero, List.cons_append, List.nil_append, List.getElem?_cons_zero, List.getElem?_cons_succ, List.set_cons_zero, List.set_cons_succ, Nat.reduceSub, Nat.reduceAdd, Nat.zero_add, Bool.not_true, Bool.not_false, Bool.and_self, Bool.and_true, Bool.and_false, lgcd_w, h, decide_false, if_false, fdiv_int g0 gs hk]
--@plus
theorem plus_q {x y : Rat} {k l : Nat} (hx : SzQ k x) (hy : SzQ l y) (hk : k + l < 9000) : F_plus [rq x, rq y] w = .ok (rq (x + y)) w := by
  unfold F_plus
  simp only [bind_w, bindK_ok, bindK_ex, ret_w, fail_w, eVar_w, varK_v, eC_w, eUn_w, eBin_w, evs0_w, evs1_w, eTup_w, eLst_w, eCall_w, eIf_w, ifE_t, ifE_f, eAnd_w, andE_t, andE_f, eOr_w, orE_t, orE_f, eNot_w, eChain_w, chainM_w, eJs_w, js0, js1, chainK_t, chainK_f, eNew_w, eHand_w, handK_ok, eXf_w, tVal_w, tTru_w, tNot_w, tYes_w, tAnd_w, tOr_w, andT_t, andT_f, orT_t, orT_f, boolOf_w, truth_bl, truth_int, truth_non, truth_lst, truth_tup, truth_frz, add_int, sub_int, neg_int, lt_int, le_int, gt_int, ge_int, isNon_w, notNon_w, is_w, isNot_w, int_w, abs_w, gcd_w, tup_w, tupt_w, list_w, listl_w, len_lst, len_tup, len_frz, un1_w, bin2_w, eq_int, ne_int, eq_pair, ne_pair, ix_lst, ix_frz, ix_tup, ix_hand, itK_v, item0, item1, item2, item3, isi_int_i, isi_int_b, isi_int_n, isi_int_s, isi_int_t, isi_int_l, isi_int_f, isi_int_h, isi_bool_i, isi_bool_b, isi_bool_n, isi_bool_s, isi_bool_t, isi_bool_l, isi_bool_f, isi_bool_h, isi_str_i, isi_str_b, isi_str_n, isi_str_s, isi_str_t, isi_str_l, isi_str_f, isi_str_h, isi_tuple_i, isi_tuple_b, isi_tuple_n, isi_tuple_s, isi_tuple_t, isi_tuple_l, isi_tuple_f, isi_tuple_h, isi_list_i, isi_list_b, isi_list_n, isi_list_s, isi_list_t, isi_list_l, isi_list_f, isi_list_h, isi_dict_i, isi_dict_b, isi_dict_n, isi_dict_s, isi_dict_t, isi_dict_l, isi_dict_f, isi_dict_h, sSeq_w, seqK_nx, seqK_rt, seqK_bk, seqK_ct, seqK_ex, onK_ok, onK_ex, sNext_w, sSet_w, sOwn_w, sFrz_w, frzK_v, sApp_w, sExpr_w, sRet_w, sRetN_w, sIf_w, ifK_t, ifK_f, sBrk_w, sCnt_w, sPar_w, parK_v, sUnp_w, unpK_2, unpK_3, unpK_4, sHSet_w, hsK_0, hsK_1, hsK_2, hsK_3, sRaise_w, sFor_w, iSeq_w, seqOf_lst, seqOf_tup, seqOf_frz, iRng_w, loopK_nx, loopK_ct, loopK_bk, loopK_rt, for0, forN, loopF_nx, loopF_ct, loopF_bk, loopF_rt, loopF_ex, sWhile_w, nLc_w, lcB_ok, lc0, lcN, lcT_t, lcT_f, lcE_v, wipeE0, wipeE1, sTry_w, tryK_nx, tryK_rt, suiteK_nx, suiteK_rt, wipe0, wipe_v, wipe_n, wipe_o, call_w, callK_nx, callK_rt, callK_ex, vals0, vals1, List.length_cons, List.length_nil, List.replicate_succ, List.replicate_zero, List.cons_append, List.nil_append, List.getElem?_cons_zero, List.getElem?_cons_succ, List.set_cons_zero, List.set_cons_succ, Nat.reduceSub, Nat.reduceAdd, Nat.zero_add, Bool.not_true, Bool.not_false, Bool.and_self, Bool.and_true, Bool.and_false, mul_int hx.1 hy.2 (by omega), mul_int hy.1 hx.2 (by omega), mul_int hx.2 hy.2 (by omega), lowest_q (den_mul0 x y) (hx.2.mul hy.2) hk, add_q]
--@lplus
theorem lplus_q {x y : Rat} {k l : Nat} (hx : SzQ k x) (hy : SzQ l y) (hk : k + l < 9000) : F__law_plus [rq x, rq y] w = .ok (rq (x + y)) w := by
  unfold F__law_plus
  simp only [bind_w, bindK_ok, bindK_ex, ret_w, fail_w, eVar_w, varK_v, eC_w, eUn_w, eBin_w, evs0_w, evs1_w, eTup_w, eLst_w, eCall_w, eIf_w, ifE_t, ifE_f, eAnd_w, andE_t, andE_f, eOr_w, orE_t, orE_f, eNot_w, eChain_w, chainM_w, eJs_w, js0, js1, chainK_t, chainK_f, eNew_w, eHand_w, handK_ok, eXf_w, tVal_w, tTru_w, tNot_w, tYes_w, tAnd_w, tOr_w, andT_t, andT_f, orT_t, orT_f, boolOf_w, truth_bl, truth_int, truth_non, truth_lst, truth_tup, truth_frz, add_int, sub_int, neg_int, lt_int, le_int, gt_int, ge_int, isNon_w, notNon_w, is_w, isNot_w, int_w, abs_w, gcd_w, tup_w, tupt_w, list_w, listl_w, len_lst, len_tup, len_frz, un1_w, bin2_w, eq_int, ne_int, eq_pair, ne_pair, ix_lst, ix_frz, ix_tup, ix_hand, itK_v, item0, item1, item2, item3, isi_int_i, isi_int_b, isi_int_n, isi_int_s, isi_int_t, isi_int_l, isi_int_f, isi_int_h, isi_bool_i, isi_bool_b, isi_bool_n, isi_bool_s, isi_bool_t, isi_bool_l, isi_bool_f, isi_bool_h, isi_str_i, isi_str_b, isi_str_n, isi_str_s, isi_str_t, isi_str_l, isi_str_f, isi_str_h, isi_tuple_i, isi_tuple_b, isi_tuple_n, isi_tuple_s, isi_tuple_t, isi_tuple_l, isi_tuple_f, isi_tuple_h, isi_list_i, isi_list_b, isi_list_n, isi_list_s, isi_list_t, isi_list_l, isi_list_f, isi_list_h, isi_dict_i, isi_dict_b, isi_dict_n, isi_dict_s, isi_dict_t, isi_dict_l, isi_dict_f, isi_dict_h, sSeq_w, seqK_nx, seqK_rt, seqK_bk, seqK_ct, seqK_ex, onK_ok, onK_ex, sNext_w, sSet_w, sOwn_w, sFrz_w, frzK_v, sApp_w, sExpr_w, sRet_w, sRetN_w, sIf_w, ifK_t, ifK_f, sBrk_w, sCnt_w, sPar_w, parK_v, sUnp_w, unpK_2, unpK_3, unpK_4, sHSet_w, hsK_0, hsK_1, hsK_2, hsK_3, sRaise_w, sFor_w, iSeq_w, seqOf_lst, seqOf_tup, seqOf_frz, iRng_w, loopK_nx, loopK_ct, loopK_bk, loopK_rt, for0, forN, loopF_nx, loopF_ct, loopF_bk, loopF_rt, loopF_ex, sWhile_w, nLc_w, lcB_ok, lc0, lcN, lcT_t, lcT_f, lcE_v, wipeE0, wipeE1, sTry_w, tryK_nx, tryK_rt, suiteK_nx, suiteK_rt, wipe0, wipe_v, wipe_n, wipe_o, call_w, callK_nx, callK_rt, callK_ex, vals0, vals1, List.length_cons, List.length_nil, List.replicate_succ, List.replicate_zero, List.cons_append, List.nil_append, List.getElem?_cons_zero, List.getElem?_cons_succ, List.set_cons_zero, List.set_cons_succ, Nat.reduceSub, Nat.reduceAdd, Nat.zero_add, Bool.not_true, Bool.not_false, Bool.and_self, Bool.and_true, Bool.and_false, mul_int hx.1 hy.2 (by omega), mul_int hy.1 hx.2 (by omega), mul_int hx.2 hy.2 (by omega), ratio_q (den_mul0 x y) (hx.2.mul hy.2) hk, add_q]
--@times
theorem times_q {x y : Rat} {k l : Nat} (hx : SzQ k x) (hy : SzQ l y) (hk : k + l < 9000) : F_times [rq x, rq y] w = .ok (rq (x * y)) w := by
  unfold F_times
  simp only [bind_w, bindK_ok, bindK_ex, ret_w, fail_w, eVar_w, varK_v, eC_w, eUn_w, eBin_w, evs0_w, evs1_w, eTup_w, eLst_w, eCall_w, eIf_w, ifE_t, ifE_f, eAnd_w, andE_t, andE_f, eOr_w, orE_t, orE_f, eNot_w, eChain_w, chainM_w, eJs_w, js0, js1, chainK_t, chainK_f, eNew_w, eHand_w, handK_ok, eXf_w, tVal_w, tTru_w, tNot_w, tYes_w, tAnd_w, tOr_w, andT_t, andT_f, orT_t, orT_f, boolOf_w, truth_bl, truth_int, truth_non, truth_lst, truth_tup, truth_frz, add_int, sub_int, neg_int, lt_int, le_int, gt_int, ge_int, isNon_w, notNon_w, is_w, isNot_w, int_w, abs_w, gcd_w, tup_w, tupt_w, list_w, listl_w, len_lst, len_tup, len_frz, un1_w, bin2_w, eq_int, ne_int, eq_pair, ne_pair, ix_lst, ix_frz, ix_tup, ix_hand, itK_v, item0, item1, item2, item3, isi_int_i, isi_int_b, isi_int_n, isi_int_s, isi_int_t, isi_int_l, isi_int_f, isi_int_h, isi_bool_i, isi_bool_b, isi_bool_n, isi_bool_s, isi_bool_t, isi_bool_l, isi_bool_f, isi_bool_h, isi_str_i, isi_str_b, isi_str_n, isi_str_s, isi_str_t, isi_str_l, isi_str_f, isi_str_h, isi_tuple_i, isi_tuple_b, isi_tuple_n, isi_tuple_s, isi_tuple_t, isi_tuple_l, isi_tuple_f, isi_tuple_h, isi_list_i, isi_list_b, isi_list_n, isi_list_s, isi_list_t, isi_list_l, isi_list_f, isi_list_h, isi_dict_i, isi_dict_b, isi_dict_n, isi_dict_s, isi_dict_t, isi_dict_l, isi_dict_f, isi_dict_h, sSeq_w, seqK_nx, seqK_rt, seqK_bk, seqK_ct, seqK_ex, onK_ok, onK_ex, sNext_w, sSet_w, sOwn_w, sFrz_w, frzK_v, sApp_w, sExpr_w, sRet_w, sRetN_w, sIf_w, ifK_t, ifK_f, sBrk_w, sCnt_w, sPar_w, parK_v, sUnp_w, unpK_2, unpK_3, unpK_4, sHSet_w, hsK_0, hsK_1, hsK_2, hsK_3, sRaise_w, sFor_w, iSeq_w, seqOf_lst, seqOf_tup, seqOf_frz, iRng_w, loopK_nx, loopK_ct, loopK_bk, loopK_rt, for0, forN, loopF_nx, loopF_ct, loopF_bk, loopF_rt, loopF_ex, sWhile_w, nLc_w, lcB_ok, lc0, lcN, lcT_t, lcT_f, lcE_v, wipeE0, wipeE1, sTry_w, tryK_nx, tryK_rt, suiteK_nx, suiteK_rt, wipe0, wipe_v, wipe_n, wipe_o, call_w, callK_nx, callK_rt, callK_ex, vals0, vals1, List.length_cons, List.length_nil, List.replicate_succ, List.replicate_zero, List.cons_append, List.nil_append, List.getElem?_cons_zero, List.getElem?_cons_succ, List.set_cons_zero, List.set_cons_succ, Nat.reduceSub, Nat.reduceAdd, Nat.zero_add, Bool.not_true, Bool.not_false, Bool.and_self, Bool.and_true, Bool.and_false, mul_int hx.1 hy.1 (by omega), mul_int hx.2 hy.2 (by omega), lowest_q (den_mul0 x y) (hx.2.mul hy.2) hk, mul_q]
--@ltimes
theorem ltimes_q {x y : Rat} {k l : Nat} (hx : SzQ k x) (hy : SzQ l y) (hk : k + l < 9000) : F__law_times [rq x, rq y] w = .ok (rq (x * y)) w := by
  unfold F__law_times
  simp only [bind_w, bindK_ok, bindK_ex, ret_w, fail_w, eVar_w, varK_v, eC_w, eUn_w, eBin_w, evs0_w, evs1_w, eTup_w, eLst_w, eCall_w, eIf_w, ifE_t, ifE_f, eAnd_w, andE_t, andE_f, eOr_w, orE_t, orE_f, eNot_w, eChain_w, chainM_w, eJs_w, js0, js1, chainK_t, chainK_f, eNew_w, eHand_w, handK_ok, eXf_w, tVal_w, tTru_w, tNot_w, tYes_w, tAnd_w, tOr_w, andT_t, andT_f, orT_t, orT_f, boolOf_w, truth_bl, truth_int, truth_non, truth_lst, truth_tup, truth_frz, add_int, sub_int, neg_int, lt_int, le_int, gt_int, ge_int, isNon_w, notNon_w, is_w, isNot_w, int_w, abs_w, gcd_w, tup_w, tupt_w, list_w, listl_w, len_lst, len_tup, len_frz, un1_w, bin2_w, eq_int, ne_int, eq_pair, ne_pair, ix_lst, ix_frz, ix_tup, ix_hand, itK_v, item0, item1, item2, item3, isi_int_i, isi_int_b, isi_int_n, isi_int_s, isi_int_t, isi_int_l, isi_int_f, isi_int_h, isi_bool_i, isi_bool_b, isi_bool_n, isi_bool_s, isi_bool_t, isi_bool_l, isi_bool_f, isi_bool_h, isi_str_i, isi_str_b, isi_str_n, isi_str_s, isi_str_t, isi_str_l, isi_str_f, isi_str_h, isi_tuple_i, isi_tuple_b, isi_tuple_n, isi_tuple_s, isi_tuple_t, isi_tuple_l, isi_tuple_f, isi_tuple_h, isi_list_i, isi_list_b, isi_list_n, isi_list_s, isi_list_t, isi_list_l, isi_list_f, isi_list_h, isi_dict_i, isi_dict_b, isi_dict_n, isi_dict_s, isi_dict_t, isi_dict_l, isi_dict_f, isi_dict_h, sSeq_w, seqK_nx, seqK_rt, seqK_bk, seqK_ct, seqK_ex, onK_ok, onK_ex, sNext_w, sSet_w, sOwn_w, sFrz_w, frzK_v, sApp_w, sExpr_w, sRet_w, sRetN_w, sIf_w, ifK_t, ifK_f, sBrk_w, sCnt_w, sPar_w, parK_v, sUnp_w, unpK_2, unpK_3, unpK_4, sHSet_w, hsK_0, hsK_1, hsK_2, hsK_3, sRaise_w, sFor_w, iSeq_w, seqOf_lst, seqOf_tup, seqOf_frz, iRng_w, loopK_nx, loopK_ct, loopK_bk, loopK_rt, for0, forN, loopF_nx, loopF_ct, loopF_bk, loopF_rt, loopF_ex, sWhile_w, nLc_w, lcB_ok, lc0, lcN, lcT_t, lcT_f, lcE_v, wipeE0, wipeE1, sTry_w, tryK_nx, tryK_rt, suiteK_nx, suiteK_rt, wipe0, wipe_v, wipe_n, wipe_o, call_w, callK_nx, callK_rt, callK_ex, vals0, vals1, List.length_cons, List.length_nil, List.replicate_succ, List.replicate_zero, List.cons_append, List.nil_append, List.getElem?_cons_zero, List.getElem?_cons_succ, List.set_cons_zero, List.set_cons_succ, Nat.reduceSub, Nat.reduceAdd, Nat.zero_add, Bool.not_true, Bool.not_false, Bool.and_self, Bool.and_true, Bool.and_false, mul_int hx.1 hy.1 (by omega), mul_int hx.2 hy.2 (by omega), ratio_q (den_mul0 x y) (hx.2.mul hy.2) hk, mul_q]
--@over
theorem over_q {x y : Rat} {k l : Nat} (hx : SzQ k x) (hy : SzQ l y) (hn : y ≠ 0) (hk : k + l < 9000) : F_over [rq x, rq y] w = .ok (rq (x / y)) w := by
  unfold F_over
  simp only [bind_w, bindK_ok, bindK_ex, ret_w, fail_w, eVar_w, varK_v, eC_w, eUn_w, eBin_w, evs0_w, evs1_w, eTup_w, eLst_w, eCall_w, eIf_w, ifE_t, ifE_f, eAnd_w, andE_t, andE_f, eOr_w, orE_t, orE_f, eNot_w, eChain_w, chainM_w, eJs_w, js0, js1, chainK_t, chainK_f, eNew_w, eHand_w, handK_ok, eXf_w, tVal_w, tTru_w, tNot_w, tYes_w, tAnd_w, tOr_w, andT_t, andT_f, orT_t, orT_f, boolOf_w, truth_bl, truth_int, truth_non, truth_lst, truth_tup, truth_frz, add_int, sub_int, neg_int, lt_int, le_int, gt_int, ge_int, isNon_w, notNon_w, is_w, isNot_w, int_w, abs_w, gcd_w, tup_w, tupt_w, list_w, listl_w, len_lst, len_tup, len_frz, un1_w, bin2_w, eq_int, ne_int, eq_pair, ne_pair, ix_lst, ix_frz, ix_tup, ix_hand, itK_v, item0, item1, item2, item3, isi_int_i, isi_int_b, isi_int_n, isi_int_s, isi_int_t, isi_int_l, isi_int_f, isi_int_h, isi_bool_i, isi_bool_b, isi_bool_n, isi_bool_s, isi_bool_t, isi_bool_l, isi_bool_f, isi_bool_h, isi_str_i, isi_str_b, isi_str_n, isi_str_s, isi_str_t, isi_str_l, isi_str_f, isi_str_h, isi_tuple_i, isi_tuple_b, isi_tuple_n, isi_tuple_s, isi_tuple_t, isi_tuple_l, isi_tuple_f, isi_tuple_h, isi_list_i, isi_list_b, isi_list_n, isi_list_s, isi_list_t, isi_list_l, isi_list_f, isi_list_h, isi_dict_i, isi_dict_b, isi_dict_n, isi_dict_s, isi_dict_t, isi_dict_l, isi_dict_f, isi_dict_h, sSeq_w, seqK_nx, seqK_rt, seqK_bk, seqK_ct, seqK_ex, onK_ok, onK_ex, sNext_w, sSet_w, sOwn_w, sFrz_w, frzK_v, sApp_w, sExpr_w, sRet_w, sRetN_w, sIf_w, ifK_t, ifK_f, sBrk_w, sCnt_w, sPar_w, parK_v, sUnp_w, unpK_2, unpK_3, unpK_4, sHSet_w, hsK_0, hsK_1, hsK_2, hsK_3, sRaise_w, sFor_w, iSeq_w, seqOf_lst, seqOf_tup, seqOf_frz, iRng_w, loopK_nx, loopK_ct, loopK_bk, loopK_rt, for0, forN, loopF_nx, loopF_ct, loopF_bk, loopF_rt, loopF_ex, sWhile_w, nLc_w, lcB_ok, lc0, lcN, lcT_t, lcT_f, lcE_v, wipeE0, wipeE1, sTry_w, tryK_nx, tryK_rt, suiteK_nx, suiteK_rt, wipe0, wipe_v, wipe_n, wipe_o, call_w, callK_nx, callK_rt, callK_ex, vals0, vals1, List.length_cons, List.length_nil, List.replicate_succ, List.replicate_zero, List.cons_append, List.nil_append, List.getElem?_cons_zero, List.getElem?_cons_succ, List.set_cons_zero, List.set_cons_succ, Nat.reduceSub, Nat.reduceAdd, Nat.zero_add, Bool.not_true, Bool.not_false, Bool.and_self, Bool.and_true, Bool.and_false, mul_int hx.1 hy.2 (by omega), mul_int hx.2 hy.1 (by omega), show (y.num == 0) = false from by simpa using fun z => hn (Rat.num_eq_zero.mp z), lowest_q (Int.mul_ne_zero (den0 x) fun z => hn (Rat.num_eq_zero.mp z)) (hx.2.mul hy.1) hk, div_q]
--@lover
theorem lover_q {x y : Rat} {k l : Nat} (hx : SzQ k x) (hy : SzQ l y) (hn : y ≠ 0) (hk : k + l < 9000) : F__law_over [rq x, rq y] w = .ok (rq (x / y)) w := by
  unfold F__law_over
  simp only [bind_w, bindK_ok, bindK_ex, ret_w, fail_w, eVar_w, varK_v, eC_w, eUn_w, eBin_w, evs0_w, evs1_w, eTup_w, eLst_w, eCall_w, eIf_w, ifE_t, ifE_f, eAnd_w, andE_t, andE_f, eOr_w, orE_t, orE_f, eNot_w, eChain_w, chainM_w, eJs_w, js0, js1, chainK_t, chainK_f, eNew_w, eHand_w, handK_ok, eXf_w, tVal_w, tTru_w, tNot_w, tYes_w, tAnd_w, tOr_w, andT_t, andT_f, orT_t, orT_f, boolOf_w, truth_bl, truth_int, truth_non, truth_lst, truth_tup, truth_frz, add_int, sub_int, neg_int, lt_int, le_int, gt_int, ge_int, isNon_w, notNon_w, is_w, isNot_w, int_w, abs_w, gcd_w, tup_w, tupt_w, list_w, listl_w, len_lst, len_tup, len_frz, un1_w, bin2_w, eq_int, ne_int, eq_pair, ne_pair, ix_lst, ix_frz, ix_tup, ix_hand, itK_v, item0, item1, item2, item3, isi_int_i, isi_int_b, isi_int_n, isi_int_s, isi_int_t, isi_int_l, isi_int_f, isi_int_h, isi_bool_i, isi_bool_b, isi_bool_n, isi_bool_s, isi_bool_t, isi_bool_l, isi_bool_f, isi_bool_h, isi_str_i, isi_str_b, isi_str_n, isi_str_s, isi_str_t, isi_str_l, isi_str_f, isi_str_h, isi_tuple_i, isi_tuple_b, isi_tuple_n, isi_tuple_s, isi_tuple_t, isi_tuple_l, isi_tuple_f, isi_tuple_h, isi_list_i, isi_list_b, isi_list_n, isi_list_s, isi_list_t, isi_list_l, isi_list_f, isi_list_h, isi_dict_i, isi_dict_b, isi_dict_n, isi_dict_s, isi_dict_t, isi_dict_l, isi_dict_f, isi_dict_h, sSeq_w, seqK_nx, seqK_rt, seqK_bk, seqK_ct, seqK_ex, onK_ok, onK_ex, sNext_w, sSet_w, sOwn_w, sFrz_w, frzK_v, sApp_w, sExpr_w, sRet_w, sRetN_w, sIf_w, ifK_t, ifK_f, sBrk_w, sCnt_w, sPar_w, parK_v, sUnp_w, unpK_2, unpK_3, unpK_4, sHSet_w, hsK_0, hsK_1, hsK_2, hsK_3, sRaise_w, sFor_w, iSeq_w, seqOf_lst, seqOf_tup, seqOf_frz, iRng_w, loopK_nx, loopK_ct, loopK_bk, loopK_rt, for0, forN, loopF_nx, loopF_ct, loopF_bk, loopF_rt, loopF_ex, sWhile_w, nLc_w, lcB_ok, lc0, lcN, lcT_t, lcT_f, lcE_v, wipeE0, wipeE1, sTry_w, tryK_nx, tryK_rt, suiteK_nx, suiteK_rt, wipe0, wipe_v, wipe_n, wipe_o, call_w, callK_nx, callK_rt, callK_ex, vals0, vals1, List.length_cons, List.length_nil, List.replicate_succ, List.replicate_zero, List.cons_append, List.nil_append, List.getElem?_cons_zero, List.getElem?_cons_succ, List.set_cons_zero, List.set_cons_succ, Nat.reduceSub, Nat.reduceAdd, Nat.zero_add, Bool.not_true, Bool.not_false, Bool.and_self, Bool.and_true, Bool.and_false, mul_int hx.1 hy.2 (by omega), mul_int hx.2 hy.1 (by omega), ratio_q (Int.mul_ne_zero (den0 x) fun z => hn (Rat.num_eq_zero.mp z)) (hx.2.mul hy.1) hk, div_q]
--@sum
theorem sumL {k : Nat} : ∀ (xs : List Rat) (a : Rat) (l : Nat) (s0 s2 : Slot), SzQ l a → (∀ x ∈ xs, SzQ k x) → l + xs.length * (k + 1) < 9000 → ∃ s2', forL (gN 2) B_sum_of_0 (xs.map rq) [s0, .val (rq a), s2] w = .nx [s0, .val (rq (a + sumQ xs)), s2'] w
  | [], a, l, s0, s2, _, _, _ => ⟨s2, by rw [show a + sumQ [] = a from Rat.add_zero a]; rfl⟩
  | x :: xs, a, l, s0, s2, ha, hx, hl => by
    have h1 := hx x (List.mem_cons_self ..)
    rw [List.length_cons, Nat.add_mul] at hl
    obtain ⟨s2', e⟩ := sumL xs (a + x) (l + k + 1) s0 (.val (rq x)) (ha.add h1) (fun y hy => hx y (List.mem_cons_of_mem _ hy)) (by omega)
    refine ⟨s2', ?_⟩
    rw [List.map_cons]
    simp only [bind_w, bindK_ok, bindK_ex, ret_w, fail_w, eVar_w, varK_v, eC_w, eUn_w, eBin_w, evs0_w, evs1_w, eTup_w, eLst_w, eCall_w, eIf_w, ifE_t, ifE_f, eAnd_w, andE_t, andE_f, eOr_w, orE_t, orE_f, eNot_w, eChain_w, chainM_w, eJs_w, js0, js1, chainK_t, chainK_f, eNew_w, eHand_w, handK_ok, eXf_w, tVal_w, tTru_w, tNot_w, tYes_w, tAnd_w, tOr_w, andT_t, andT_f, orT_t, orT_f, boolOf_w, truth_bl, truth_int, truth_non, truth_lst, truth_tup, truth_frz, add_int, sub_int, neg_int, lt_int, le_int, gt_int, ge_int, isNon_w, notNon_w, is_w, isNot_w, int_w, abs_w, gcd_w, tup_w, tupt_w, list_w, listl_w, len_lst, len_tup, len_frz, un1_w, bin2_w, eq_int, ne_int, eq_pair, ne_pair, ix_lst, ix_frz, ix_tup, ix_hand, itK_v, item0, item1, item2, item3, isi_int_i, isi_int_b, isi_int_n, isi_int_s, isi_int_t, isi_int_l, isi_int_f, isi_int_h, isi_bool_i, isi_bool_b, isi_bool_n, isi_bool_s, isi_bool_t, isi_bool_l, isi_bool_f, isi_bool_h, isi_str_i, isi_str_b, isi_str_n, isi_str_s, isi_str_t, isi_str_l, isi_str_f, isi_str_h, isi_tuple_i, isi_tuple_b, isi_tuple_n, isi_tuple_s, isi_tuple_t, isi_tuple_l, isi_tuple_f, isi_tuple_h, isi_list_i, isi_list_b, isi_list_n, isi_list_s, isi_list_t, isi_list_l, isi_list_f, isi_list_h, isi_dict_i, isi_dict_b, isi_dict_n, isi_dict_s, isi_dict_t, isi_dict_l, isi_dict_f, isi_dict_h, sSeq_w, seqK_nx, seqK_rt, seqK_bk, seqK_ct, seqK_ex, onK_ok, onK_ex, sNext_w, sSet_w, sOwn_w, sFrz_w, frzK_v, sApp_w, sExpr_w, sRet_w, sRetN_w, sIf_w, ifK_t, ifK_f, sBrk_w, sCnt_w, sPar_w, parK_v, sUnp_w, unpK_2, unpK_3, unpK_4, sHSet_w, hsK_0, hsK_1, hsK_2, hsK_3, sRaise_w, sFor_w, iSeq_w, seqOf_lst, seqOf_tup, seqOf_frz, iRng_w, loopK_nx, loopK_ct, loopK_bk, loopK_rt, for0, forN, loopF_nx, loopF_ct, loopF_bk, loopF_rt, loopF_ex, sWhile_w, nLc_w, lcB_ok, lc0, lcN, lcT_t, lcT_f, lcE_v, wipeE0, wipeE1, sTry_w, tryK_nx, tryK_rt, suiteK_nx, suiteK_rt, wipe0, wipe_v, wipe_n, wipe_o, call_w, callK_nx, callK_rt, callK_ex, vals0, vals1, List.length_cons, List.length_nil, List.replicate_succ, List.replicate_zero, List.cons_append, List.nil_append, List.getElem?_cons_zero, List.getElem?_cons_succ, List.set_cons_zero, List.set_cons_succ, Nat.reduceSub, Nat.reduceAdd, Nat.zero_add, Bool.not_true, Bool.not_false, Bool.and_self, Bool.and_true, Bool.and_false, B_sum_of_0_w, plus_q ha h1 (by omega)]
    rw [e, Rat.add_assoc]
    rfl
theorem sum_q {k : Nat} {xs : List Rat} (hx : ∀ x ∈ xs, SzQ k x) (hl : 1 + xs.length * (k + 1) < 9000) : F_sum_of [.lst (xs.map rq)] w = .ok (rq (sumQ xs)) w := by
  obtain ⟨s2', e⟩ := sumL (w := w) xs 0 1 (.val (.lst (xs.map rq))) .none ⟨by unfold Sz; decide, by unfold Sz; decide⟩ hx hl
  rw [Rat.zero_add, show rq 0 = .tup [.int 0, .int 1] from rfl] at e
  unfold F_sum_of
  simp only [bind_w, bindK_ok, bindK_ex, ret_w, fail_w, eVar_w, varK_v, eC_w, eUn_w, eBin_w, evs0_w, evs1_w, eTup_w, eLst_w, eCall_w, eIf_w, ifE_t, ifE_f, eAnd_w, andE_t, andE_f, eOr_w, orE_t, orE_f, eNot_w, eChain_w, chainM_w, eJs_w, js0, js1, chainK_t, chainK_f, eNew_w, eHand_w, handK_ok, eXf_w, tVal_w, tTru_w, tNot_w, tYes_w, tAnd_w, tOr_w, andT_t, andT_f, orT_t, orT_f, boolOf_w, truth_bl, truth_int, truth_non, truth_lst, truth_tup, truth_frz, add_int, sub_int, neg_int, lt_int, le_int, gt_int, ge_int, isNon_w, notNon_w, is_w, isNot_w, int_w, abs_w, gcd_w, tup_w, tupt_w, list_w, listl_w, len_lst, len_tup, len_frz, un1_w, bin2_w, eq_int, ne_int, eq_pair, ne_pair, ix_lst, ix_frz, ix_tup, ix_hand, itK_v, item0, item1, item2, item3, isi_int_i, isi_int_b, isi_int_n, isi_int_s, isi_int_t, isi_int_l, isi_int_f, isi_int_h, isi_bool_i, isi_bool_b, isi_bool_n, isi_bool_s, isi_bool_t, isi_bool_l, isi_bool_f, isi_bool_h, isi_str_i, isi_str_b, isi_str_n, isi_str_s, isi_str_t, isi_str_l, isi_str_f, isi_str_h, isi_tuple_i, isi_tuple_b, isi_tuple_n, isi_tuple_s, isi_tuple_t, isi_tuple_l, isi_tuple_f, isi_tuple_h, isi_list_i, isi_list_b, isi_list_n, isi_list_s, isi_list_t, isi_list_l, isi_list_f, isi_list_h, isi_dict_i, isi_dict_b, isi_dict_n, isi_dict_s, isi_dict_t, isi_dict_l, isi_dict_f, isi_dict_h, sSeq_w, seqK_nx, seqK_rt, seqK_bk, seqK_ct, seqK_ex, onK_ok, onK_ex, sNext_w, sSet_w, sOwn_w, sFrz_w, frzK_v, sApp_w, sExpr_w, sRet_w, sRetN_w, sIf_w, ifK_t, ifK_f, sBrk_w, sCnt_w, sPar_w, parK_v, sUnp_w, unpK_2, unpK_3, unpK_4, sHSet_w, hsK_0, hsK_1, hsK_2, hsK_3, sRaise_w, sFor_w, iSeq_w, seqOf_lst, seqOf_tup, seqOf_frz, iRng_w, loopK_nx, loopK_ct, loopK_bk, loopK_rt, for0, forN, loopF_nx, loopF_ct, loopF_bk, loopF_rt, loopF_ex, sWhile_w, nLc_w, lcB_ok, lc0, lcN, lcT_t, lcT_f, lcE_v, wipeE0, wipeE1, sTry_w, tryK_nx, tryK_rt, suiteK_nx, suiteK_rt, wipe0, wipe_v, wipe_n, wipe_o, call_w, callK_nx, callK_rt, callK_ex, vals0, vals1, List.length_cons, List.length_nil, List.replicate_succ, List.replicate_zero, List.cons_append, List.nil_append, List.getElem?_cons_zero, List.getElem?_cons_succ, List.set_cons_zero, List.set_cons_succ, Nat.reduceSub, Nat.reduceAdd, Nat.zero_add, Bool.not_true, Bool.not_false, Bool.and_self, Bool.and_true, Bool.and_false]
  rw [e]
  simp only [bind_w, bindK_ok, bindK_ex, ret_w, fail_w, eVar_w, varK_v, eC_w, eUn_w, eBin_w, evs0_w, evs1_w, eTup_w, eLst_w, eCall_w, eIf_w, ifE_t, ifE_f, eAnd_w, andE_t, andE_f, eOr_w, orE_t, orE_f, eNot_w, eChain_w, chainM_w, eJs_w, js0, js1, chainK_t, chainK_f, eNew_w, eHand_w, handK_ok, eXf_w, tVal_w, tTru_w, tNot_w, tYes_w, tAnd_w, tOr_w, andT_t, andT_f, orT_t, orT_f, boolOf_w, truth_bl, truth_int, truth_non, truth_lst, truth_tup, truth_frz, add_int, sub_int, neg_int, lt_int, le_int, gt_int, ge_int, isNon_w, notNon_w, is_w, isNot_w, int_w, abs_w, gcd_w, tup_w, tupt_w, list_w, listl_w, len_lst, len_tup, len_frz, un1_w, bin2_w, eq_int, ne_int, eq_pair, ne_pair, ix_lst, ix_frz, ix_tup, ix_hand, itK_v, item0, item1, item2, item3, isi_int_i, isi_int_b, isi_int_n, isi_int_s, isi_int_t, isi_int_l, isi_int_f, isi_int_h, isi_bool_i, isi_bool_b, isi_bool_n, isi_bool_s, isi_bool_t, isi_bool_l, isi_bool_f, isi_bool_h, isi_str_i, isi_str_b, isi_str_n, isi_str_s, isi_str_t, isi_str_l, isi_str_f, isi_str_h, isi_tuple_i, isi_tuple_b, isi_tuple_n, isi_tuple_s, isi_tuple_t, isi_tuple_l, isi_tuple_f, isi_tuple_h, isi_list_i, isi_list_b, isi_list_n, isi_list_s, isi_list_t, isi_list_l, isi_list_f, isi_list_h, isi_dict_i, isi_dict_b, isi_dict_n, isi_dict_s, isi_dict_t, isi_dict_l, isi_dict_f, isi_dict_h, sSeq_w, seqK_nx, seqK_rt, seqK_bk, seqK_ct, seqK_ex, onK_ok, onK_ex, sNext_w, sSet_w, sOwn_w, sFrz_w, frzK_v, sApp_w, sExpr_w, sRet_w, sRetN_w, sIf_w, ifK_t, ifK_f, sBrk_w, sCnt_w, sPar_w, parK_v, sUnp_w, unpK_2, unpK_3, unpK_4, sHSet_w, hsK_0, hsK_1, hsK_2, hsK_3, sRaise_w, sFor_w, iSeq_w, seqOf_lst, seqOf_tup, seqOf_frz, iRng_w, loopK_nx, loopK_ct, loopK_bk, loopK_rt, for0, forN, loopF_nx, loopF_ct, loopF_bk, loopF_rt, loopF_ex, sWhile_w, nLc_w, lcB_ok, lc0, lcN, lcT_t, lcT_f, lcE_v, wipeE0, wipeE1, sTry_w, tryK_nx, tryK_rt, suiteK_nx, suiteK_rt, wipe0, wipe_v, wipe_n, wipe_o, call_w, callK_nx, callK_rt, callK_ex, vals0, vals1, List.length_cons, List.length_nil, List.replicate_succ, List.replicate_zero, List.cons_append, List.nil_append, List.getElem?_cons_zero, List.getElem?_cons_succ, List.set_cons_zero, List.set_cons_succ, Nat.reduceSub, Nat.reduceAdd, Nat.zero_add, Bool.not_true, Bool.not_false, Bool.and_self, Bool.and_true, Bool.and_false]
--@lsum
theorem lsumL {k : Nat} : ∀ (xs : List Rat) (a : Rat) (l : Nat) (s0 s2 : Slot), SzQ l a → (∀ x ∈ xs, SzQ k x) → l + xs.length * (k + 1) < 9000 → ∃ s2', forL (gN 2) B__law_sum_0 (xs.map rq) [s0, .val (rq a), s2] w = .nx [s0, .val (rq (a + sumQ xs)), s2'] w
  | [], a, l, s0, s2, _, _, _ => ⟨s2, by rw [show a + sumQ [] = a from Rat.add_zero a]; rfl⟩
  | x :: xs, a, l, s0, s2, ha, hx, hl => by
    have h1 := hx x (List.mem_cons_self ..)
    rw [List.length_cons, Nat.add_mul] at hl
    obtain ⟨s2', e⟩ := lsumL xs (a + x) (l + k + 1) s0 (.val (rq x)) (ha.add h1) (fun y hy => hx y (List.mem_cons_of_mem _ hy)) (by omega)
    refine ⟨s2', ?_⟩
    rw [List.map_cons]
    simp only [bind_w, bindK_ok, bindK_ex, ret_w, fail_w, eVar_w, varK_v, eC_w, eUn_w, eBin_w, evs0_w, evs1_w, eTup_w, eLst_w, eCall_w, eIf_w, ifE_t, ifE_f, eAnd_w, andE_t, andE_f, eOr_w, orE_t, orE_f, eNot_w, eChain_w, chainM_w, eJs_w, js0, js1, chainK_t, chainK_f, eNew_w, eHand_w, handK_ok, eXf_w, tVal_w, tTru_w, tNot_w, tYes_w, tAnd_w, tOr_w, andT_t, andT_f, orT_t, orT_f, boolOf_w, truth_bl, truth_int, truth_non, truth_lst, truth_tup, truth_frz, add_int, sub_int, neg_int, lt_int, le_int, gt_int, ge_int, isNon_w, notNon_w, is_w, isNot_w, int_w, abs_w, gcd_w, tup_w, tupt_w, list_w, listl_w, len_lst, len_tup, len_frz, un1_w, bin2_w, eq_int, ne_int, eq_pair, ne_pair, ix_lst, ix_frz, ix_tup, ix_hand, itK_v, item0, item1, item2, item3, isi_int_i, isi_int_b, isi_int_n, isi_int_s, isi_int_t, isi_int_l, isi_int_f, isi_int_h, isi_bool_i, isi_bool_b, isi_bool_n, isi_bool_s, isi_bool_t, isi_bool_l, isi_bool_f, isi_bool_h, isi_str_i, isi_str_b, isi_str_n, isi_str_s, isi_str_t, isi_str_l, isi_str_f, isi_str_h, isi_tuple_i, isi_tuple_b, isi_tuple_n, isi_tuple_s, isi_tuple_t, isi_tuple_l, isi_tuple_f, isi_tuple_h, isi_list_i, isi_list_b, isi_list_n, isi_list_s, isi_list_t, isi_list_l, isi_list_f, isi_list_h, isi_dict_i, isi_dict_b, isi_dict_n, isi_dict_s, isi_dict_t, isi_dict_l, isi_dict_f, isi_dict_h, sSeq_w, seqK_nx, seqK_rt, seqK_bk, seqK_ct, seqK_ex, onK_ok, onK_ex, sNext_w, sSet_w, sOwn_w, sFrz_w, frzK_v, sApp_w, sExpr_w, sRet_w, sRetN_w, sIf_w, ifK_t, ifK_f, sBrk_w, sCnt_w, sPar_w, parK_v, sUnp_w, unpK_2, unpK_3, unpK_4, sHSet_w, hsK_0, hsK_1, hsK_2, hsK_3, sRaise_w, sFor_w, iSeq_w, seqOf_lst, seqOf_tup, seqOf_frz, iRng_w, loopK_nx, loopK_ct, loopK_bk, loopK_rt, for0, forN, loopF_nx, loopF_ct, loopF_bk, loopF_rt, loopF_ex, sWhile_w, nLc_w, lcB_ok, lc0, lcN, lcT_t, lcT_f, lcE_v, wipeE0, wipeE1, sTry_w, tryK_nx, tryK_rt, suiteK_nx, suiteK_rt, wipe0, wipe_v, wipe_n, wipe_o, call_w, callK_nx, callK_rt, callK_ex, vals0, vals1, List.length_cons, List.length_nil, List.replicate_succ, List.replicate_zero, List.cons_append, List.nil_append, List.getElem?_cons_zero, List.getElem?_cons_succ, List.set_cons_zero, List.set_cons_succ, Nat.reduceSub, Nat.reduceAdd, Nat.zero_add, Bool.not_true, Bool.not_false, Bool.and_self, Bool.and_true, Bool.and_false, B__law_sum_0_w, lplus_q ha h1 (by omega)]
    rw [e, Rat.add_assoc]
    rfl
theorem lsum_q {k : Nat} {xs : List Rat} (hx : ∀ x ∈ xs, SzQ k x) (hl : 1 + xs.length * (k + 1) < 9000) : F__law_sum [.lst (xs.map rq)] w = .ok (rq (sumQ xs)) w := by
  obtain ⟨s2', e⟩ := lsumL (w := w) xs 0 1 (.val (.lst (xs.map rq))) .none ⟨by unfold Sz; decide, by unfold Sz; decide⟩ hx hl
  rw [Rat.zero_add, show rq 0 = .tup [.int 0, .int 1] from rfl] at e
  unfold F__law_sum
  simp only [bind_w, bindK_ok, bindK_ex, ret_w, fail_w, eVar_w, varK_v, eC_w, eUn_w, eBin_w, evs0_w, evs1_w, eTup_w, eLst_w, eCall_w, eIf_w, ifE_t, ifE_f, eAnd_w, andE_t, andE_f, eOr_w, orE_t, orE_f, eNot_w, eChain_w, chainM_w, eJs_w, js0, js1, chainK_t, chainK_f, eNew_w, eHand_w, handK_ok, eXf_w, tVal_w, tTru_w, tNot_w, tYes_w, tAnd_w, tOr_w, andT_t, andT_f, orT_t, orT_f, boolOf_w, truth_bl, truth_int, truth_non, truth_lst, truth_tup, truth_frz, add_int, sub_int, neg_int, lt_int, le_int, gt_int, ge_int, isNon_w, notNon_w, is_w, isNot_w, int_w, abs_w, gcd_w, tup_w, tupt_w, list_w, listl_w, len_lst, len_tup, len_frz, un1_w, bin2_w, eq_int, ne_int, eq_pair, ne_pair, ix_lst, ix_frz, ix_tup, ix_hand, itK_v, item0, item1, item2, item3, isi_int_i, isi_int_b, isi_int_n, isi_int_s, isi_int_t, isi_int_l, isi_int_f, isi_int_h, isi_bool_i, isi_bool_b, isi_bool_n, isi_bool_s, isi_bool_t, isi_bool_l, isi_bool_f, isi_bool_h, isi_str_i, isi_str_b, isi_str_n, isi_str_s, isi_str_t, isi_str_l, isi_str_f, isi_str_h, isi_tuple_i, isi_tuple_b, isi_tuple_n, isi_tuple_s, isi_tuple_t, isi_tuple_l, isi_tuple_f, isi_tuple_h, isi_list_i, isi_list_b, isi_list_n, isi_list_s, isi_list_t, isi_list_l, isi_list_f, isi_list_h, isi_dict_i, isi_dict_b, isi_dict_n, isi_dict_s, isi_dict_t, isi_dict_l, isi_dict_f, isi_dict_h, sSeq_w, seqK_nx, seqK_rt, seqK_bk, seqK_ct, seqK_ex, onK_ok, onK_ex, sNext_w, sSet_w, sOwn_w, sFrz_w, frzK_v, sApp_w, sExpr_w, sRet_w, sRetN_w, sIf_w, ifK_t, ifK_f, sBrk_w, sCnt_w, sPar_w, parK_v, sUnp_w, unpK_2, unpK_3, unpK_4, sHSet_w, hsK_0, hsK_1, hsK_2, hsK_3, sRaise_w, sFor_w, iSeq_w, seqOf_lst, seqOf_tup, seqOf_frz, iRng_w, loopK_nx, loopK_ct, loopK_bk, loopK_rt, for0, forN, loopF_nx, loopF_ct, loopF_bk, loopF_rt, loopF_ex, sWhile_w, nLc_w, lcB_ok, lc0, lcN, lcT_t, lcT_f, lcE_v, wipeE0, wipeE1, sTry_w, tryK_nx, tryK_rt, suiteK_nx, suiteK_rt, wipe0, wipe_v, wipe_n, wipe_o, call_w, callK_nx, callK_rt, callK_ex, vals0, vals1, List.length_cons, List.length_nil, List.replicate_succ, List.replicate_zero, List.cons_append, List.nil_append, List.getElem?_cons_zero, List.getElem?_cons_succ, List.set_cons_zero, List.set_cons_succ, Nat.reduceSub, Nat.reduceAdd, Nat.zero_add, Bool.not_true, Bool.not_false, Bool.and_self, Bool.and_true, Bool.and_false]
  rw [e]
  simp only [bind_w, bindK_ok, bindK_ex, ret_w, fail_w, eVar_w, varK_v, eC_w, eUn_w, eBin_w, evs0_w, evs1_w, eTup_w, eLst_w, eCall_w, eIf_w, ifE_t, ifE_f, eAnd_w, andE_t, andE_f, eOr_w, orE_t, orE_f, eNot_w, eChain_w, chainM_w, eJs_w, js0, js1, chainK_t, chainK_f, eNew_w, eHand_w, handK_ok, eXf_w, tVal_w, tTru_w, tNot_w, tYes_w, tAnd_w, tOr_w, andT_t, andT_f, orT_t, orT_f, boolOf_w, truth_bl, truth_int, truth_non, truth_lst, truth_tup, truth_frz, add_int, sub_int, neg_int, lt_int, le_int, gt_int, ge_int, isNon_w, notNon_w, is_w, isNot_w, int_w, abs_w, gcd_w, tup_w, tupt_w, list_w, listl_w, len_lst, len_tup, len_frz, un1_w, bin2_w, eq_int, ne_int, eq_pair, ne_pair, ix_lst, ix_frz, ix_tup, ix_hand, itK_v, item0, item1, item2, item3, isi_int_i, isi_int_b, isi_int_n, isi_int_s, isi_int_t, isi_int_l, isi_int_f, isi_int_h, isi_bool_i, isi_bool_b, isi_bool_n, isi_bool_s, isi_bool_t, isi_bool_l, isi_bool_f, isi_bool_h, isi_str_i, isi_str_b, isi_str_n, isi_str_s, isi_str_t, isi_str_l, isi_str_f, isi_str_h, isi_tuple_i, isi_tuple_b, isi_tuple_n, isi_tuple_s, isi_tuple_t, isi_tuple_l, isi_tuple_f, isi_tuple_h, isi_list_i, isi_list_b, isi_list_n, isi_list_s, isi_list_t, isi_list_l, isi_list_f, isi_list_h, isi_dict_i, isi_dict_b, isi_dict_n, isi_dict_s, isi_dict_t, isi_dict_l, isi_dict_f, isi_dict_h, sSeq_w, seqK_nx, seqK_rt, seqK_bk, seqK_ct, seqK_ex, onK_ok, onK_ex, sNext_w, sSet_w, sOwn_w, sFrz_w, frzK_v, sApp_w, sExpr_w, sRet_w, sRetN_w, sIf_w, ifK_t, ifK_f, sBrk_w, sCnt_w, sPar_w, parK_v, sUnp_w, unpK_2, unpK_3, unpK_4, sHSet_w, hsK_0, hsK_1, hsK_2, hsK_3, sRaise_w, sFor_w, iSeq_w, seqOf_lst, seqOf_tup, seqOf_frz, iRng_w, loopK_nx, loopK_ct, loopK_bk, loopK_rt, for0, forN, loopF_nx, loopF_ct, loopF_bk, loopF_rt, loopF_ex, sWhile_w, nLc_w, lcB_ok, lc0, lcN, lcT_t, lcT_f, lcE_v, wipeE0, wipeE1, sTry_w, tryK_nx, tryK_rt, suiteK_nx, suiteK_rt, wipe0, wipe_v, wipe_n, wipe_o, call_w, callK_nx, callK_rt, callK_ex, vals0, vals1, List.length_cons, List.length_nil, List.replicate_succ, List.replicate_zero, List.cons_append, List.nil_append, List.getElem?_cons_zero, List.getElem?_cons_succ, List.set_cons_zero, List.set_cons_succ, Nat.reduceSub, Nat.reduceAdd, Nat.zero_add, Bool.not_true, Bool.not_false, Bool.and_self, Bool.and_true, Bool.and_false]
--@whole
theorem whole_i (i : Int) : F_is_whole [.int i, .non, .non] w = .ok (.bl true) w := by
  unfold F_is_whole
  simp only [bind_w, bindK_ok, bindK_ex, ret_w, fail_w, eVar_w, varK_v, eC_w, eUn_w, eBin_w, evs0_w, evs1_w, eTup_w, eLst_w, eCall_w, eIf_w, ifE_t, ifE_f, eAnd_w, andE_t, andE_f, eOr_w, orE_t, orE_f, eNot_w, eChain_w, chainM_w, eJs_w, js0, js1, chainK_t, chainK_f, eNew_w, eHand_w, handK_ok, eXf_w, tVal_w, tTru_w, tNot_w, tYes_w, tAnd_w, tOr_w, andT_t, andT_f, orT_t, orT_f, boolOf_w, truth_bl, truth_int, truth_non, truth_lst, truth_tup, truth_frz, add_int, sub_int, neg_int, lt_int, le_int, gt_int, ge_int, isNon_w, notNon_w, is_w, isNot_w, int_w, abs_w, gcd_w, tup_w, tupt_w, list_w, listl_w, len_lst, len_tup, len_frz, un1_w, bin2_w, eq_int, ne_int, eq_pair, ne_pair, ix_lst, ix_frz, ix_tup, ix_hand, itK_v, item0, item1, item2, item3, isi_int_i, isi_int_b, isi_int_n, isi_int_s, isi_int_t, isi_int_l, isi_int_f, isi_int_h, isi_bool_i, isi_bool_b, isi_bool_n, isi_bool_s, isi_bool_t, isi_bool_l, isi_bool_f, isi_bool_h, isi_str_i, isi_str_b, isi_str_n, isi_str_s, isi_str_t, isi_str_l, isi_str_f, isi_str_h, isi_tuple_i, isi_tuple_b, isi_tuple_n, isi_tuple_s, isi_tuple_t, isi_tuple_l, isi_tuple_f, isi_tuple_h, isi_list_i, isi_list_b, isi_list_n, isi_list_s, isi_list_t, isi_list_l, isi_list_f, isi_list_h, isi_dict_i, isi_dict_b, isi_dict_n, isi_dict_s, isi_dict_t, isi_dict_l, isi_dict_f, isi_dict_h, sSeq_w, seqK_nx, seqK_rt, seqK_bk, seqK_ct, seqK_ex, onK_ok, onK_ex, sNext_w, sSet_w, sOwn_w, sFrz_w, frzK_v, sApp_w, sExpr_w, sRet_w, sRetN_w, sIf_w, ifK_t, ifK_f, sBrk_w, sCnt_w, sPar_w, parK_v, sUnp_w, unpK_2, unpK_3, unpK_4, sHSet_w, hsK_0, hsK_1, hsK_2, hsK_3, sRaise_w, sFor_w, iSeq_w, seqOf_lst, seqOf_tup, seqOf_frz, iRng_w, loopK_nx, loopK_ct, loopK_bk, loopK_rt, for0, forN, loopF_nx, loopF_ct, loopF_bk, loopF_rt, loopF_ex, sWhile_w, nLc_w, lcB_ok, lc0, lcN, lcT_t, lcT_f, lcE_v, wipeE0, wipeE1, sTry_w, tryK_nx, tryK_rt, suiteK_nx, suiteK_rt, wipe0, wipe_v, wipe_n, wipe_o, call_w, callK_nx, callK_rt, callK_ex, vals0, vals1, List.length_cons, List.length_nil, List.replicate_succ, List.replicate_zero, List.cons_append, List.nil_append, List.getElem?_cons_zero, List.getElem?_cons_succ, List.set_cons_zero, List.set_cons_succ, Nat.reduceSub, Nat.reduceAdd, Nat.zero_add, Bool.not_true, Bool.not_false, Bool.and_self, Bool.and_true, Bool.and_false, D.isNon]
theorem whole_l (i l : Int) : F_is_whole [.int i, .int l, .non] w = .ok (.bl (decide (l ≤ i))) w := by
  unfold F_is_whole
  by_cases h : i < l
  · simp only [bind_w, bindK_ok, bindK_ex, ret_w, fail_w, eVar_w, varK_v, eC_w, eUn_w, eBin_w, evs0_w, evs1_w, eTup_w, eLst_w, eCall_w, eIf_w, ifE_t, ifE_f, eAnd_w, andE_t, andE_f, eOr_w, orE_t, orE_f, eNot_w, eChain_w, chainM_w, eJs_w, js0, js1, chainK_t, chainK_f, eNew_w, eHand_w, handK_ok, eXf_w, tVal_w, tTru_w, tNot_w, tYes_w, tAnd_w, tOr_w, andT_t, andT_f, orT_t, orT_f, boolOf_w, truth_bl, truth_int, truth_non, truth_lst, truth_tup, truth_frz, add_int, sub_int, neg_int, lt_int, le_int, gt_int, ge_int, isNon_w, notNon_w, is_w, isNot_w, int_w, abs_w, gcd_w, tup_w, tupt_w, list_w, listl_w, len_lst, len_tup, len_frz, un1_w, bin2_w, eq_int, ne_int, eq_pair, ne_pair, ix_lst, ix_frz, ix_tup, ix_hand, itK_v, item0, item1, item2, item3, isi_int_i, isi_int_b, isi_int_n, isi_int_s, isi_int_t, isi_int_l, isi_int_f, isi_int_h, isi_bool_i, isi_bool_b, isi_bool_n, isi_bool_s, isi_bool_t, isi_bool_l, isi_bool_f, isi_bool_h, isi_str_i, isi_str_b, isi_str_n, isi_str_s, isi_str_t, isi_str_l, isi_str_f, isi_str_h, isi_tuple_i, isi_tuple_b, isi_tuple_n, isi_tuple_s, isi_tuple_t, isi_tuple_l, isi_tuple_f, isi_tuple_h, isi_list_i, isi_list_b, isi_list_n, isi_list_s, isi_list_t, isi_list_l, isi_list_f, isi_list_h, isi_dict_i, isi_dict_b, isi_dict_n, isi_dict_s, isi_dict_t, isi_dict_l, isi_dict_f, isi_dict_h, sSeq_w, seqK_nx, seqK_rt, seqK_bk, seqK_ct, seqK_ex, onK_ok, onK_ex, sNext_w, sSet_w, sOwn_w, sFrz_w, frzK_v, sApp_w, sExpr_w, sRet_w, sRetN_w, sIf_w, ifK_t, ifK_f, sBrk_w, sCnt_w, sPar_w, parK_v, sUnp_w, unpK_2, unpK_3, unpK_4, sHSet_w, hsK_0, hsK_1, hsK_2, hsK_3, sRaise_w, sFor_w, iSeq_w, seqOf_lst, seqOf_tup, seqOf_frz, iRng_w, loopK_nx, loopK_ct, loopK_bk, loopK_rt, for0, forN, loopF_nx, loopF_ct, loopF_bk, loopF_rt, loopF_ex, sWhile_w, nLc_w, lcB_ok, lc0, lcN, lcT_t, lcT_f, lcE_v, wipeE0, wipeE1, sTry_w, tryK_nx, tryK_rt, suiteK_nx, suiteK_rt, wipe0, wipe_v, wipe_n, wipe_o, call_w, callK_nx, callK_rt, callK_ex, vals0, vals1, List.length_cons, List.length_nil, List.replicate_succ, List.replicate_zero, List.cons_append, List.nil_append, List.getElem?_cons_zero, List.getElem?_cons_succ, List.set_cons_zero, List.set_cons_succ, Nat.reduceSub, Nat.reduceAdd, Nat.zero_add, Bool.not_true, Bool.not_false, Bool.and_self, Bool.and_true, Bool.and_false, D.isNon, h, decide_true, show ¬ l ≤ i by omega, decide_false]
  · simp only [bind_w, bindK_ok, bindK_ex, ret_w, fail_w, eVar_w, varK_v, eC_w, eUn_w, eBin_w, evs0_w, evs1_w, eTup_w, eLst_w, eCall_w, eIf_w, ifE_t, ifE_f, eAnd_w, andE_t, andE_f, eOr_w, orE_t, orE_f, eNot_w, eChain_w, chainM_w, eJs_w, js0, js1, chainK_t, chainK_f, eNew_w, eHand_w, handK_ok, eXf_w, tVal_w, tTru_w, tNot_w, tYes_w, tAnd_w, tOr_w, andT_t, andT_f, orT_t, orT_f, boolOf_w, truth_bl, truth_int, truth_non, truth_lst, truth_tup, truth_frz, add_int, sub_int, neg_int, lt_int, le_int, gt_int, ge_int, isNon_w, notNon_w, is_w, isNot_w, int_w, abs_w, gcd_w, tup_w, tupt_w, list_w, listl_w, len_lst, len_tup, len_frz, un1_w, bin2_w, eq_int, ne_int, eq_pair, ne_pair, ix_lst, ix_frz, ix_tup, ix_hand, itK_v, item0, item1, item2, item3, isi_int_i, isi_int_b, isi_int_n, isi_int_s, isi_int_t, isi_int_l, isi_int_f, isi_int_h, isi_bool_i, isi_bool_b, isi_bool_n, isi_bool_s, isi_bool_t, isi_bool_l, isi_bool_f, isi_bool_h, isi_str_i, isi_str_b, isi_str_n, isi_str_s, isi_str_t, isi_str_l, isi_str_f, isi_str_h, isi_tuple_i, isi_tuple_b, isi_tuple_n, isi_tuple_s, isi_tuple_t, isi_tuple_l, isi_tuple_f, isi_tuple_h, isi_list_i, isi_list_b, isi_list_n, isi_list_s, isi_list_t, isi_list_l, isi_list_f, isi_list_h, isi_dict_i, isi_dict_b, isi_dict_n, isi_dict_s, isi_dict_t, isi_dict_l, isi_dict_f, isi_dict_h, sSeq_w, seqK_nx, seqK_rt, seqK_bk, seqK_ct, seqK_ex, onK_ok, onK_ex, sNext_w, sSet_w, sOwn_w, sFrz_w, frzK_v, sApp_w, sExpr_w, sRet_w, sRetN_w, sIf_w, ifK_t, ifK_f, sBrk_w, sCnt_w, sPar_w, parK_v, sUnp_w, unpK_2, unpK_3, unpK_4, sHSet_w, hsK_0, hsK_1, hsK_2, hsK_3, sRaise_w, sFor_w, iSeq_w, seqOf_lst, seqOf_tup, seqOf_frz, iRng_w, loopK_nx, loopK_ct, loopK_bk, loopK_rt, for0, forN, loopF_nx, loopF_ct, loopF_bk, loopF_rt, loopF_ex, sWhile_w, nLc_w, lcB_ok, lc0, lcN, lcT_t, lcT_f, lcE_v, wipeE0, wipeE1, sTry_w, tryK_nx, tryK_rt, suiteK_nx, suiteK_rt, wipe0, wipe_v, wipe_n, wipe_o, call_w, callK_nx, callK_rt, callK_ex, vals0, vals1, List.length_cons, List.length_nil, List.replicate_succ, List.replicate_zero, List.cons_append, List.nil_append, List.getElem?_cons_zero, List.getElem?_cons_succ, List.set_cons_zero, List.set_cons_succ, Nat.reduceSub, Nat.reduceAdd, Nat.zero_add, Bool.not_true, Bool.not_false, Bool.and_self, Bool.and_true, Bool.and_false, D.isNon, h, decide_false, show l ≤ i by omega, decide_true]
theorem whole_h (i u : Int) : F_is_whole [.int i, .non, .int u] w = .ok (.bl (decide (i ≤ u))) w := by
  unfold F_is_whole
  simp only [bind_w, bindK_ok, bindK_ex, ret_w, fail_w, eVar_w, varK_v, eC_w, eUn_w, eBin_w, evs0_w, evs1_w, eTup_w, eLst_w, eCall_w, eIf_w, ifE_t, ifE_f, eAnd_w, andE_t, andE_f, eOr_w, orE_t, orE_f, eNot_w, eChain_w, chainM_w, eJs_w, js0, js1, chainK_t, chainK_f, eNew_w, eHand_w, handK_ok, eXf_w, tVal_w, tTru_w, tNot_w, tYes_w, tAnd_w, tOr_w, andT_t, andT_f, orT_t, orT_f, boolOf_w, truth_bl, truth_int, truth_non, truth_lst, truth_tup, truth_frz, add_int, sub_int, neg_int, lt_int, le_int, gt_int, ge_int, isNon_w, notNon_w, is_w, isNot_w, int_w, abs_w, gcd_w, tup_w, tupt_w, list_w, listl_w, len_lst, len_tup, len_frz, un1_w, bin2_w, eq_int, ne_int, eq_pair, ne_pair, ix_lst, ix_frz, ix_tup, ix_hand, itK_v, item0, item1, item2, item3, isi_int_i, isi_int_b, isi_int_n, isi_int_s, isi_int_t, isi_int_l, isi_int_f, isi_int_h, isi_bool_i, isi_bool_b, isi_bool_n, isi_bool_s, isi_bool_t, isi_bool_l, isi_bool_f, isi_bool_h, isi_str_i, isi_str_b, isi_str_n, isi_str_s, isi_str_t, isi_str_l, isi_str_f, isi_str_h, isi_tuple_i, isi_tuple_b, isi_tuple_n, isi_tuple_s, isi_tuple_t, isi_tuple_l, isi_tuple_f, isi_tuple_h, isi_list_i, isi_list_b, isi_list_n, isi_list_s, isi_list_t, isi_list_l, isi_list_f, isi_list_h, isi_dict_i, isi_dict_b, isi_dict_n, isi_dict_s, isi_dict_t, isi_dict_l, isi_dict_f, isi_dict_h, sSeq_w, seqK_nx, seqK_rt, seqK_bk, seqK_ct, seqK_ex, onK_ok, onK_ex, sNext_w, sSet_w, sOwn_w, sFrz_w, frzK_v, sApp_w, sExpr_w, sRet_w, sRetN_w, sIf_w, ifK_t, ifK_f, sBrk_w, sCnt_w, sPar_w, parK_v, sUnp_w, unpK_2, unpK_3, unpK_4, sHSet_w, hsK_0, hsK_1, hsK_2, hsK_3, sRaise_w, sFor_w, iSeq_w, seqOf_lst, seqOf_tup, seqOf_frz, iRng_w, loopK_nx, loopK_ct, loopK_bk, loopK_rt, for0, forN, loopF_nx, loopF_ct, loopF_bk, loopF_rt, loopF_ex, sWhile_w, nLc_w, lcB_ok, lc0, lcN, lcT_t, lcT_f, lcE_v, wipeE0, wipeE1, sTry_w, tryK_nx, tryK_rt, suiteK_nx, suiteK_rt, wipe0, wipe_v, wipe_n, wipe_o, call_w, callK_nx, callK_rt, callK_ex, vals0, vals1, List.length_cons, List.length_nil, List.replicate_succ, List.replicate_zero, List.cons_append, List.nil_append, List.getElem?_cons_zero, List.getElem?_cons_succ, List.set_cons_zero, List.set_cons_succ, Nat.reduceSub, Nat.reduceAdd, Nat.zero_add, Bool.not_true, Bool.not_false, Bool.and_self, Bool.and_true, Bool.and_false, D.isNon]
theorem whole_lh (i l u : Int) : F_is_whole [.int i, .int l, .int u] w = .ok (.bl (decide (l ≤ i ∧ i ≤ u))) w := by
  unfold F_is_whole
  by_cases h : i < l
  · simp only [bind_w, bindK_ok, bindK_ex, ret_w, fail_w, eVar_w, varK_v, eC_w, eUn_w, eBin_w, evs0_w, evs1_w, eTup_w, eLst_w, eCall_w, eIf_w, ifE_t, ifE_f, eAnd_w, andE_t, andE_f, eOr_w, orE_t, orE_f, eNot_w, eChain_w, chainM_w, eJs_w, js0, js1, chainK_t, chainK_f, eNew_w, eHand_w, handK_ok, eXf_w, tVal_w, tTru_w, tNot_w, tYes_w, tAnd_w, tOr_w, andT_t, andT_f, orT_t, orT_f, boolOf_w, truth_bl, truth_int, truth_non, truth_lst, truth_tup, truth_frz, add_int, sub_int, neg_int, lt_int, le_int, gt_int, ge_int, isNon_w, notNon_w, is_w, isNot_w, int_w, abs_w, gcd_w, tup_w, tupt_w, list_w, listl_w, len_lst, len_tup, len_frz, un1_w, bin2_w, eq_int, ne_int, eq_pair, ne_pair, ix_lst, ix_frz, ix_tup, ix_hand, itK_v, item0, item1, item2, item3, isi_int_i, isi_int_b, isi_int_n, isi_int_s, isi_int_t, isi_int_l, isi_int_f, isi_int_h, isi_bool_i, isi_bool_b, isi_bool_n, isi_bool_s, isi_bool_t, isi_bool_l, isi_bool_f, isi_bool_h, isi_str_i, isi_str_b, isi_str_n, isi_str_s, isi_str_t, isi_str_l, isi_str_f, isi_str_h, isi_tuple_i, isi_tuple_b, isi_tuple_n, isi_tuple_s, isi_tuple_t, isi_tuple_l, isi_tuple_f, isi_tuple_h, isi_list_i, isi_list_b, isi_list_n, isi_list_s, isi_list_t, isi_list_l, isi_list_f, isi_list_h, isi_dict_i, isi_dict_b, isi_dict_n, isi_dict_s, isi_dict_t, isi_dict_l, isi_dict_f, isi_dict_h, sSeq_w, seqK_nx, seqK_rt, seqK_bk, seqK_ct, seqK_ex, onK_ok, onK_ex, sNext_w, sSet_w, sOwn_w, sFrz_w, frzK_v, sApp_w, sExpr_w, sRet_w, sRetN_w, sIf_w, ifK_t, ifK_f, sBrk_w, sCnt_w, sPar_w, parK_v, sUnp_w, unpK_2, unpK_3, unpK_4, sHSet_w, hsK_0, hsK_1, hsK_2, hsK_3, sRaise_w, sFor_w, iSeq_w, seqOf_lst, seqOf_tup, seqOf_frz, iRng_w, loopK_nx, loopK_ct, loopK_bk, loopK_rt, for0, forN, loopF_nx, loopF_ct, loopF_bk, loopF_rt, loopF_ex, sWhile_w, nLc_w, lcB_ok, lc0, lcN, lcT_t, lcT_f, lcE_v, wipeE0, wipeE1, sTry_w, tryK_nx, tryK_rt, suiteK_nx, suiteK_rt, wipe0, wipe_v, wipe_n, wipe_o, call_w, callK_nx, callK_rt, callK_ex, vals0, vals1, List.length_cons, List.length_nil, List.replicate_succ, List.replicate_zero, List.cons_append, List.nil_append, List.getElem?_cons_zero, List.getElem?_cons_succ, List.set_cons_zero, List.set_cons_succ, Nat.reduceSub, Nat.reduceAdd, Nat.zero_add, Bool.not_true, Bool.not_false, Bool.and_self, Bool.and_true, Bool.and_false, D.isNon, h, decide_true, show ¬ l ≤ i by omega, false_and, decide_false]
  · simp only [bind_w, bindK_ok, bindK_ex, ret_w, fail_w, eVar_w, varK_v, eC_w, eUn_w, eBin_w, evs0_w, evs1_w, eTup_w, eLst_w, eCall_w, eIf_w, ifE_t, ifE_f, eAnd_w, andE_t, andE_f, eOr_w, orE_t, orE_f, eNot_w, eChain_w, chainM_w, eJs_w, js0, js1, chainK_t, chainK_f, eNew_w, eHand_w, handK_ok, eXf_w, tVal_w, tTru_w, tNot_w, tYes_w, tAnd_w, tOr_w, andT_t, andT_f, orT_t, orT_f, boolOf_w, truth_bl, truth_int, truth_non, truth_lst, truth_tup, truth_frz, add_int, sub_int, neg_int, lt_int, le_int, gt_int, ge_int, isNon_w, notNon_w, is_w, isNot_w, int_w, abs_w, gcd_w, tup_w, tupt_w, list_w, listl_w, len_lst, len_tup, len_frz, un1_w, bin2_w, eq_int, ne_int, eq_pair, ne_pair, ix_lst, ix_frz, ix_tup, ix_hand, itK_v, item0, item1, item2, item3, isi_int_i, isi_int_b, isi_int_n, isi_int_s, isi_int_t, isi_int_l, isi_int_f, isi_int_h, isi_bool_i, isi_bool_b, isi_bool_n, isi_bool_s, isi_bool_t, isi_bool_l, isi_bool_f, isi_bool_h, isi_str_i, isi_str_b, isi_str_n, isi_str_s, isi_str_t, isi_str_l, isi_str_f, isi_str_h, isi_tuple_i, isi_tuple_b, isi_tuple_n, isi_tuple_s, isi_tuple_t, isi_tuple_l, isi_tuple_f, isi_tuple_h, isi_list_i, isi_list_b, isi_list_n, isi_list_s, isi_list_t, isi_list_l, isi_list_f, isi_list_h, isi_dict_i, isi_dict_b, isi_dict_n, isi_dict_s, isi_dict_t, isi_dict_l, isi_dict_f, isi_dict_h, sSeq_w, seqK_nx, seqK_rt, seqK_bk, seqK_ct, seqK_ex, onK_ok, onK_ex, sNext_w, sSet_w, sOwn_w, sFrz_w, frzK_v, sApp_w, sExpr_w, sRet_w, sRetN_w, sIf_w, ifK_t, ifK_f, sBrk_w, sCnt_w, sPar_w, parK_v, sUnp_w, unpK_2, unpK_3, unpK_4, sHSet_w, hsK_0, hsK_1, hsK_2, hsK_3, sRaise_w, sFor_w, iSeq_w, seqOf_lst, seqOf_tup, seqOf_frz, iRng_w, loopK_nx, loopK_ct, loopK_bk, loopK_rt, for0, forN, loopF_nx, loopF_ct, loopF_bk, loopF_rt, loopF_ex, sWhile_w, nLc_w, lcB_ok, lc0, lcN, lcT_t, lcT_f, lcE_v, wipeE0, wipeE1, sTry_w, tryK_nx, tryK_rt, suiteK_nx, suiteK_rt, wipe0, wipe_v, wipe_n, wipe_o, call_w, callK_nx, callK_rt, callK_ex, vals0, vals1, List.length_cons, List.length_nil, List.replicate_succ, List.replicate_zero, List.cons_append, List.nil_append, List.getElem?_cons_zero, List.getElem?_cons_succ, List.set_cons_zero, List.set_cons_succ, Nat.reduceSub, Nat.reduceAdd, Nat.zero_add, Bool.not_true, Bool.not_false, Bool.and_self, Bool.and_true, Bool.and_false, D.isNon, h, decide_false, show l ≤ i by omega, true_and]
theorem whole_b (b : Bool) (x y : D) : F_is_whole [.bl b, x, y] w = .ok (.bl false) w := by
  unfold F_is_whole
  simp only [bind_w, bindK_ok, bindK_ex, ret_w, fail_w, eVar_w, varK_v, eC_w, eUn_w, eBin_w, evs0_w, evs1_w, eTup_w, eLst_w, eCall_w, eIf_w, ifE_t, ifE_f, eAnd_w, andE_t, andE_f, eOr_w, orE_t, orE_f, eNot_w, eChain_w, chainM_w, eJs_w, js0, js1, chainK_t, chainK_f, eNew_w, eHand_w, handK_ok, eXf_w, tVal_w, tTru_w, tNot_w, tYes_w, tAnd_w, tOr_w, andT_t, andT_f, orT_t, orT_f, boolOf_w, truth_bl, truth_int, truth_non, truth_lst, truth_tup, truth_frz, add_int, sub_int, neg_int, lt_int, le_int, gt_int, ge_int, isNon_w, notNon_w, is_w, isNot_w, int_w, abs_w, gcd_w, tup_w, tupt_w, list_w, listl_w, len_lst, len_tup, len_frz, un1_w, bin2_w, eq_int, ne_int, eq_pair, ne_pair, ix_lst, ix_frz, ix_tup, ix_hand, itK_v, item0, item1, item2, item3, isi_int_i, isi_int_b, isi_int_n, isi_int_s, isi_int_t, isi_int_l, isi_int_f, isi_int_h, isi_bool_i, isi_bool_b, isi_bool_n, isi_bool_s, isi_bool_t, isi_bool_l, isi_bool_f, isi_bool_h, isi_str_i, isi_str_b, isi_str_n, isi_str_s, isi_str_t, isi_str_l, isi_str_f, isi_str_h, isi_tuple_i, isi_tuple_b, isi_tuple_n, isi_tuple_s, isi_tuple_t, isi_tuple_l, isi_tuple_f, isi_tuple_h, isi_list_i, isi_list_b, isi_list_n, isi_list_s, isi_list_t, isi_list_l, isi_list_f, isi_list_h, isi_dict_i, isi_dict_b, isi_dict_n, isi_dict_s, isi_dict_t, isi_dict_l, isi_dict_f, isi_dict_h, sSeq_w, seqK_nx, seqK_rt, seqK_bk, seqK_ct, seqK_ex, onK_ok, onK_ex, sNext_w, sSet_w, sOwn_w, sFrz_w, frzK_v, sApp_w, sExpr_w, sRet_w, sRetN_w, sIf_w, ifK_t, ifK_f, sBrk_w, sCnt_w, sPar_w, parK_v, sUnp_w, unpK_2, unpK_3, unpK_4, sHSet_w, hsK_0, hsK_1, hsK_2, hsK_3, sRaise_w, sFor_w, iSeq_w, seqOf_lst, seqOf_tup, seqOf_frz, iRng_w, loopK_nx, loopK_ct, loopK_bk, loopK_rt, for0, forN, loopF_nx, loopF_ct, loopF_bk, loopF_rt, loopF_ex, sWhile_w, nLc_w, lcB_ok, lc0, lcN, lcT_t, lcT_f, lcE_v, wipeE0, wipeE1, sTry_w, tryK_nx, tryK_rt, suiteK_nx, suiteK_rt, wipe0, wipe_v, wipe_n, wipe_o, call_w, callK_nx, callK_rt, callK_ex, vals0, vals1, List.length_cons, List.length_nil, List.replicate_succ, List.replicate_zero, List.cons_append, List.nil_append, List.getElem?_cons_zero, List.getElem?_cons_succ, List.set_cons_zero, List.set_cons_succ, Nat.reduceSub, Nat.reduceAdd, Nat.zero_add, Bool.not_true, Bool.not_false, Bool.and_self, Bool.and_true, Bool.and_false]
theorem whole_n (x y : D) : F_is_whole [.non, x, y] w = .ok (.bl false) w := by
  unfold F_is_whole
  simp only [bind_w, bindK_ok, bindK_ex, ret_w, fail_w, eVar_w, varK_v, eC_w, eUn_w, eBin_w, evs0_w, evs1_w, eTup_w, eLst_w, eCall_w, eIf_w, ifE_t, ifE_f, eAnd_w, andE_t, andE_f, eOr_w, orE_t, orE_f, eNot_w, eChain_w, chainM_w, eJs_w, js0, js1, chainK_t, chainK_f, eNew_w, eHand_w, handK_ok, eXf_w, tVal_w, tTru_w, tNot_w, tYes_w, tAnd_w, tOr_w, andT_t, andT_f, orT_t, orT_f, boolOf_w, truth_bl, truth_int, truth_non, truth_lst, truth_tup, truth_frz, add_int, sub_int, neg_int, lt_int, le_int, gt_int, ge_int, isNon_w, notNon_w, is_w, isNot_w, int_w, abs_w, gcd_w, tup_w, tupt_w, list_w, listl_w, len_lst, len_tup, len_frz, un1_w, bin2_w, eq_int, ne_int, eq_pair, ne_pair, ix_lst, ix_frz, ix_tup, ix_hand, itK_v, item0, item1, item2, item3, isi_int_i, isi_int_b, isi_int_n, isi_int_s, isi_int_t, isi_int_l, isi_int_f, isi_int_h, isi_bool_i, isi_bool_b, isi_bool_n, isi_bool_s, isi_bool_t, isi_bool_l, isi_bool_f, isi_bool_h, isi_str_i, isi_str_b, isi_str_n, isi_str_s, isi_str_t, isi_str_l, isi_str_f, isi_str_h, isi_tuple_i, isi_tuple_b, isi_tuple_n, isi_tuple_s, isi_tuple_t, isi_tuple_l, isi_tuple_f, isi_tuple_h, isi_list_i, isi_list_b, isi_list_n, isi_list_s, isi_list_t, isi_list_l, isi_list_f, isi_list_h, isi_dict_i, isi_dict_b, isi_dict_n, isi_dict_s, isi_dict_t, isi_dict_l, isi_dict_f, isi_dict_h, sSeq_w, seqK_nx, seqK_rt, seqK_bk, seqK_ct, seqK_ex, onK_ok, onK_ex, sNext_w, sSet_w, sOwn_w, sFrz_w, frzK_v, sApp_w, sExpr_w, sRet_w, sRetN_w, sIf_w, ifK_t, ifK_f, sBrk_w, sCnt_w, sPar_w, parK_v, sUnp_w, unpK_2, unpK_3, unpK_4, sHSet_w, hsK_0, hsK_1, hsK_2, hsK_3, sRaise_w, sFor_w, iSeq_w, seqOf_lst, seqOf_tup, seqOf_frz, iRng_w, loopK_nx, loopK_ct, loopK_bk, loopK_rt, for0, forN, loopF_nx, loopF_ct, loopF_bk, loopF_rt, loopF_ex, sWhile_w, nLc_w, lcB_ok, lc0, lcN, lcT_t, lcT_f, lcE_v, wipeE0, wipeE1, sTry_w, tryK_nx, tryK_rt, suiteK_nx, suiteK_rt, wipe0, wipe_v, wipe_n, wipe_o, call_w, callK_nx, callK_rt, callK_ex, vals0, vals1, List.length_cons, List.length_nil, List.replicate_succ, List.replicate_zero, List.cons_append, List.nil_append, List.getElem?_cons_zero, List.getElem?_cons_succ, List.set_cons_zero, List.set_cons_succ, Nat.reduceSub, Nat.reduceAdd, Nat.zero_add, Bool.not_true, Bool.not_false, Bool.and_self, Bool.and_true, Bool.and_false]
theorem whole_s (s : Str) (x y : D) : F_is_whole [.str s, x, y] w = .ok (.bl false) w := by
  unfold F_is_whole
  simp only [bind_w, bindK_ok, bindK_ex, ret_w, fail_w, eVar_w, varK_v, eC_w, eUn_w, eBin_w, evs0_w, evs1_w, eTup_w, eLst_w, eCall_w, eIf_w, ifE_t, ifE_f, eAnd_w, andE_t, andE_f, eOr_w, orE_t, orE_f, eNot_w, eChain_w, chainM_w, eJs_w, js0, js1, chainK_t, chainK_f, eNew_w, eHand_w, handK_ok, eXf_w, tVal_w, tTru_w, tNot_w, tYes_w, tAnd_w, tOr_w, andT_t, andT_f, orT_t, orT_f, boolOf_w, truth_bl, truth_int, truth_non, truth_lst, truth_tup, truth_frz, add_int, sub_int, neg_int, lt_int, le_int, gt_int, ge_int, isNon_w, notNon_w, is_w, isNot_w, int_w, abs_w, gcd_w, tup_w, tupt_w, list_w, listl_w, len_lst, len_tup, len_frz, un1_w, bin2_w, eq_int, ne_int, eq_pair, ne_pair, ix_lst, ix_frz, ix_tup, ix_hand, itK_v, item0, item1, item2, item3, isi_int_i, isi_int_b, isi_int_n, isi_int_s, isi_int_t, isi_int_l, isi_int_f, isi_int_h, isi_bool_i, isi_bool_b, isi_bool_n, isi_bool_s, isi_bool_t, isi_bool_l, isi_bool_f, isi_bool_h, isi_str_i, isi_str_b, isi_str_n, isi_str_s, isi_str_t, isi_str_l, isi_str_f, isi_str_h, isi_tuple_i, isi_tuple_b, isi_tuple_n, isi_tuple_s, isi_tuple_t, isi_tuple_l, isi_tuple_f, isi_tuple_h, isi_list_i, isi_list_b, isi_list_n, isi_list_s, isi_list_t, isi_list_l, isi_list_f, isi_list_h, isi_dict_i, isi_dict_b, isi_dict_n, isi_dict_s, isi_dict_t, isi_dict_l, isi_dict_f, isi_dict_h, sSeq_w, seqK_nx, seqK_rt, seqK_bk, seqK_ct, seqK_ex, onK_ok, onK_ex, sNext_w, sSet_w, sOwn_w, sFrz_w, frzK_v, sApp_w, sExpr_w, sRet_w, sRetN_w, sIf_w, ifK_t, ifK_f, sBrk_w, sCnt_w, sPar_w, parK_v, sUnp_w, unpK_2, unpK_3, unpK_4, sHSet_w, hsK_0, hsK_1, hsK_2, hsK_3, sRaise_w, sFor_w, iSeq_w, seqOf_lst, seqOf_tup, seqOf_frz, iRng_w, loopK_nx, loopK_ct, loopK_bk, loopK_rt, for0, forN, loopF_nx, loopF_ct, loopF_bk, loopF_rt, loopF_ex, sWhile_w, nLc_w, lcB_ok, lc0, lcN, lcT_t, lcT_f, lcE_v, wipeE0, wipeE1, sTry_w, tryK_nx, tryK_rt, suiteK_nx, suiteK_rt, wipe0, wipe_v, wipe_n, wipe_o, call_w, callK_nx, callK_rt, callK_ex, vals0, vals1, List.length_cons, List.length_nil, List.replicate_succ, List.replicate_zero, List.cons_append, List.nil_append, List.getElem?_cons_zero, List.getElem?_cons_succ, List.set_cons_zero, List.set_cons_succ, Nat.reduceSub, Nat.reduceAdd, Nat.zero_add, Bool.not_true, Bool.not_false, Bool.and_self, Bool.and_true, Bool.and_false]
theorem whole_t (s : List D) (x y : D) : F_is_whole [.tup s, x, y] w = .ok (.bl false) w := by
  unfold F_is_whole
  simp only [bind_w, bindK_ok, bindK_ex, ret_w, fail_w, eVar_w, varK_v, eC_w, eUn_w, eBin_w, evs0_w, evs1_w, eTup_w, eLst_w, eCall_w, eIf_w, ifE_t, ifE_f, eAnd_w, andE_t, andE_f, eOr_w, orE_t, orE_f, eNot_w, eChain_w, chainM_w, eJs_w, js0, js1, chainK_t, chainK_f, eNew_w, eHand_w, handK_ok, eXf_w, tVal_w, tTru_w, tNot_w, tYes_w, tAnd_w, tOr_w, andT_t, andT_f, orT_t, orT_f, boolOf_w, truth_bl, truth_int, truth_non, truth_lst, truth_tup, truth_frz, add_int, sub_int, neg_int, lt_int, le_int, gt_int, ge_int, isNon_w, notNon_w, is_w, isNot_w, int_w, abs_w, gcd_w, tup_w, tupt_w, list_w, listl_w, len_lst, len_tup, len_frz, un1_w, bin2_w, eq_int, ne_int, eq_pair, ne_pair, ix_lst, ix_frz, ix_tup, ix_hand, itK_v, item0, item1, item2, item3, isi_int_i, isi_int_b, isi_int_n, isi_int_s, isi_int_t, isi_int_l, isi_int_f, isi_int_h, isi_bool_i, isi_bool_b, isi_bool_n, isi_bool_s, isi_bool_t, isi_bool_l, isi_bool_f, isi_bool_h, isi_str_i, isi_str_b, isi_str_n, isi_str_s, isi_str_t, isi_str_l, isi_str_f, isi_str_h, isi_tuple_i, isi_tuple_b, isi_tuple_n, isi_tuple_s, isi_tuple_t, isi_tuple_l, isi_tuple_f, isi_tuple_h, isi_list_i, isi_list_b, isi_list_n, isi_list_s, isi_list_t, isi_list_l, isi_list_f, isi_list_h, isi_dict_i, isi_dict_b, isi_dict_n, isi_dict_s, isi_dict_t, isi_dict_l, isi_dict_f, isi_dict_h, sSeq_w, seqK_nx, seqK_rt, seqK_bk, seqK_ct, seqK_ex, onK_ok, onK_ex, sNext_w, sSet_w, sOwn_w, sFrz_w, frzK_v, sApp_w, sExpr_w, sRet_w, sRetN_w, sIf_w, ifK_t, ifK_f, sBrk_w, sCnt_w, sPar_w, parK_v, sUnp_w, unpK_2, unpK_3, unpK_4, sHSet_w, hsK_0, hsK_1, hsK_2, hsK_3, sRaise_w, sFor_w, iSeq_w, seqOf_lst, seqOf_tup, seqOf_frz, iRng_w, loopK_nx, loopK_ct, loopK_bk, loopK_rt, for0, forN, loopF_nx, loopF_ct, loopF_bk, loopF_rt, loopF_ex, sWhile_w, nLc_w, lcB_ok, lc0, lcN, lcT_t, lcT_f, lcE_v, wipeE0, wipeE1, sTry_w, tryK_nx, tryK_rt, suiteK_nx, suiteK_rt, wipe0, wipe_v, wipe_n, wipe_o, call_w, callK_nx, callK_rt, callK_ex, vals0, vals1, List.length_cons, List.length_nil, List.replicate_succ, List.replicate_zero, List.cons_append, List.nil_append, List.getElem?_cons_zero, List.getElem?_cons_succ, List.set_cons_zero, List.set_cons_succ, Nat.reduceSub, Nat.reduceAdd, Nat.zero_add, Bool.not_true, Bool.not_false, Bool.and_self, Bool.and_true, Bool.and_false]
theorem whole_L (s : List D) (x y : D) : F_is_whole [.lst s, x, y] w = .ok (.bl false) w := by
  unfold F_is_whole
  simp only [bind_w, bindK_ok, bindK_ex, ret_w, fail_w, eVar_w, varK_v, eC_w, eUn_w, eBin_w, evs0_w, evs1_w, eTup_w, eLst_w, eCall_w, eIf_w, ifE_t, ifE_f, eAnd_w, andE_t, andE_f, eOr_w, orE_t, orE_f, eNot_w, eChain_w, chainM_w, eJs_w, js0, js1, chainK_t, chainK_f, eNew_w, eHand_w, handK_ok, eXf_w, tVal_w, tTru_w, tNot_w, tYes_w, tAnd_w, tOr_w, andT_t, andT_f, orT_t, orT_f, boolOf_w, truth_bl, truth_int, truth_non, truth_lst, truth_tup, truth_frz, add_int, sub_int, neg_int, lt_int, le_int, gt_int, ge_int, isNon_w, notNon_w, is_w, isNot_w, int_w, abs_w, gcd_w, tup_w, tupt_w, list_w, listl_w, len_lst, len_tup, len_frz, un1_w, bin2_w, eq_int, ne_int, eq_pair, ne_pair, ix_lst, ix_frz, ix_tup, ix_hand, itK_v, item0, item1, item2, item3, isi_int_i, isi_int_b, isi_int_n, isi_int_s, isi_int_t, isi_int_l, isi_int_f, isi_int_h, isi_bool_i, isi_bool_b, isi_bool_n, isi_bool_s, isi_bool_t, isi_bool_l, isi_bool_f, isi_bool_h, isi_str_i, isi_str_b, isi_str_n, isi_str_s, isi_str_t, isi_str_l, isi_str_f, isi_str_h, isi_tuple_i, isi_tuple_b, isi_tuple_n, isi_tuple_s, isi_tuple_t, isi_tuple_l, isi_tuple_f, isi_tuple_h, isi_list_i, isi_list_b, isi_list_n, isi_list_s, isi_list_t, isi_list_l, isi_list_f, isi_list_h, isi_dict_i, isi_dict_b, isi_dict_n, isi_dict_s, isi_dict_t, isi_dict_l, isi_dict_f, isi_dict_h, sSeq_w, seqK_nx, seqK_rt, seqK_bk, seqK_ct, seqK_ex, onK_ok, onK_ex, sNext_w, sSet_w, sOwn_w, sFrz_w, frzK_v, sApp_w, sExpr_w, sRet_w, sRetN_w, sIf_w, ifK_t, ifK_f, sBrk_w, sCnt_w, sPar_w, parK_v, sUnp_w, unpK_2, unpK_3, unpK_4, sHSet_w, hsK_0, hsK_1, hsK_2, hsK_3, sRaise_w, sFor_w, iSeq_w, seqOf_lst, seqOf_tup, seqOf_frz, iRng_w, loopK_nx, loopK_ct, loopK_bk, loopK_rt, for0, forN, loopF_nx, loopF_ct, loopF_bk, loopF_rt, loopF_ex, sWhile_w, nLc_w, lcB_ok, lc0, lcN, lcT_t, lcT_f, lcE_v, wipeE0, wipeE1, sTry_w, tryK_nx, tryK_rt, suiteK_nx, suiteK_rt, wipe0, wipe_v, wipe_n, wipe_o, call_w, callK_nx, callK_rt, callK_ex, vals0, vals1, List.length_cons, List.length_nil, List.replicate_succ, List.replicate_zero, List.cons_append, List.nil_append, List.getElem?_cons_zero, List.getElem?_cons_succ, List.set_cons_zero, List.set_cons_succ, Nat.reduceSub, Nat.reduceAdd, Nat.zero_add, Bool.not_true, Bool.not_false, Bool.and_self, Bool.and_true, Bool.and_false]
theorem isr_2 (a b : Int) : F_is_ratio [.tup [.int a, .int b]] w = .ok (.bl (decide (1 ≤ b) && ((Nat.gcd a.natAbs b.natAbs : Nat) : Int) == 1)) w := by
  unfold F_is_ratio
  by_cases h : 1 ≤ b
  · simp only [bind_w, bindK_ok, bindK_ex, ret_w, fail_w, eVar_w, varK_v, eC_w, eUn_w, eBin_w, evs0_w, evs1_w, eTup_w, eLst_w, eCall_w, eIf_w, ifE_t, ifE_f, eAnd_w, andE_t, andE_f, eOr_w, orE_t, orE_f, eNot_w, eChain_w, chainM_w, eJs_w, js0, js1, chainK_t, chainK_f, eNew_w, eHand_w, handK_ok, eXf_w, tVal_w, tTru_w, tNot_w, tYes_w, tAnd_w, tOr_w, andT_t, andT_f, orT_t, orT_f, boolOf_w, truth_bl, truth_int, truth_non, truth_lst, truth_tup, truth_frz, add_int, sub_int, neg_int, lt_int, le_int, gt_int, ge_int, isNon_w, notNon_w, is_w, isNot_w, int_w, abs_w, gcd_w, tup_w, tupt_w, list_w, listl_w, len_lst, len_tup, len_frz, un1_w, bin2_w, eq_int, ne_int, eq_pair, ne_pair, ix_lst, ix_frz, ix_tup, ix_hand, itK_v, item0, item1, item2, item3, isi_int_i, isi_int_b, isi_int_n, isi_int_s, isi_int_t, isi_int_l, isi_int_f, isi_int_h, isi_bool_i, isi_bool_b, isi_bool_n, isi_bool_s, isi_bool_t, isi_bool_l, isi_bool_f, isi_bool_h, isi_str_i, isi_str_b, isi_str_n, isi_str_s, isi_str_t, isi_str_l, isi_str_f, isi_str_h, isi_tuple_i, isi_tuple_b, isi_tuple_n, isi_tuple_s, isi_tuple_t, isi_tuple_l, isi_tuple_f, isi_tuple_h, isi_list_i, isi_list_b, isi_list_n, isi_list_s, isi_list_t, isi_list_l, isi_list_f, isi_list_h, isi_dict_i, isi_dict_b, isi_dict_n, isi_dict_s, isi_dict_t, isi_dict_l, isi_dict_f, isi_dict_h, sSeq_w, seqK_nx, seqK_rt, seqK_bk, seqK_ct, seqK_ex, onK_ok, onK_ex, sNext_w, sSet_w, sOwn_w, sFrz_w, frzK_v, sApp_w, sExpr_w, sRet_w, sRetN_w, sIf_w, ifK_t, ifK_f, sBrk_w, sCnt_w, sPar_w, parK_v, sUnp_w, unpK_2, unpK_3, unpK_4, sHSet_w, hsK_0, hsK_1, hsK_2, hsK_3, sRaise_w, sFor_w, iSeq_w, seqOf_lst, seqOf_tup, seqOf_frz, iRng_w, loopK_nx, loopK_ct, loopK_bk, loopK_rt, for0, forN, loopF_nx, loopF_ct, loopF_bk, loopF_rt, loopF_ex, sWhile_w, nLc_w, lcB_ok, lc0, lcN, lcT_t, lcT_f, lcE_v, wipeE0, wipeE1, sTry_w, tryK_nx, tryK_rt, suiteK_nx, suiteK_rt, wipe0, wipe_v, wipe_n, wipe_o, call_w, callK_nx, callK_rt, callK_ex, vals0, vals1, List.length_cons, List.length_nil, List.replicate_succ, List.replicate_zero, List.cons_append, List.nil_append, List.getElem?_cons_zero, List.getElem?_cons_succ, List.set_cons_zero, List.set_cons_succ, Nat.reduceSub, Nat.reduceAdd, Nat.zero_add, Bool.not_true, Bool.not_false, Bool.and_self, Bool.and_true, Bool.and_false, whole_i, whole_l, h, decide_true, Int.cast_ofNat_Int, beq_self_eq_true, Bool.true_and]
  · simp only [bind_w, bindK_ok, bindK_ex, ret_w, fail_w, eVar_w, varK_v, eC_w, eUn_w, eBin_w, evs0_w, evs1_w, eTup_w, eLst_w, eCall_w, eIf_w, ifE_t, ifE_f, eAnd_w, andE_t, andE_f, eOr_w, orE_t, orE_f, eNot_w, eChain_w, chainM_w, eJs_w, js0, js1, chainK_t, chainK_f, eNew_w, eHand_w, handK_ok, eXf_w, tVal_w, tTru_w, tNot_w, tYes_w, tAnd_w, tOr_w, andT_t, andT_f, orT_t, orT_f, boolOf_w, truth_bl, truth_int, truth_non, truth_lst, truth_tup, truth_frz, add_int, sub_int, neg_int, lt_int, le_int, gt_int, ge_int, isNon_w, notNon_w, is_w, isNot_w, int_w, abs_w, gcd_w, tup_w, tupt_w, list_w, listl_w, len_lst, len_tup, len_frz, un1_w, bin2_w, eq_int, ne_int, eq_pair, ne_pair, ix_lst, ix_frz, ix_tup, ix_hand, itK_v, item0, item1, item2, item3, isi_int_i, isi_int_b, isi_int_n, isi_int_s, isi_int_t, isi_int_l, isi_int_f, isi_int_h, isi_bool_i, isi_bool_b, isi_bool_n, isi_bool_s, isi_bool_t, isi_bool_l, isi_bool_f, isi_bool_h, isi_str_i, isi_str_b, isi_str_n, isi_str_s, isi_str_t, isi_str_l, isi_str_f, isi_str_h, isi_tuple_i, isi_tuple_b, isi_tuple_n, isi_tuple_s, isi_tuple_t, isi_tuple_l, isi_tuple_f, isi_tuple_h, isi_list_i, isi_list_b, isi_list_n, isi_list_s, isi_list_t, isi_list_l, isi_list_f, isi_list_h, isi_dict_i, isi_dict_b, isi_dict_n, isi_dict_s, isi_dict_t, isi_dict_l, isi_dict_f, isi_dict_h, sSeq_w, seqK_nx, seqK_rt, seqK_bk, seqK_ct, seqK_ex, onK_ok, onK_ex, sNext_w, sSet_w, sOwn_w, sFrz_w, frzK_v, sApp_w, sExpr_w, sRet_w, sRetN_w, sIf_w, ifK_t, ifK_f, sBrk_w, sCnt_w, sPar_w, parK_v, sUnp_w, unpK_2, unpK_3, unpK_4, sHSet_w, hsK_0, hsK_1, hsK_2, hsK_3, sRaise_w, sFor_w, iSeq_w, seqOf_lst, seqOf_tup, seqOf_frz, iRng_w, loopK_nx, loopK_ct, loopK_bk, loopK_rt, for0, forN, loopF_nx, loopF_ct, loopF_bk, loopF_rt, loopF_ex, sWhile_w, nLc_w, lcB_ok, lc0, lcN, lcT_t, lcT_f, lcE_v, wipeE0, wipeE1, sTry_w, tryK_nx, tryK_rt, suiteK_nx, suiteK_rt, wipe0, wipe_v, wipe_n, wipe_o, call_w, callK_nx, callK_rt, callK_ex, vals0, vals1, List.length_cons, List.length_nil, List.replicate_succ, List.replicate_zero, List.cons_append, List.nil_append, List.getElem?_cons_zero, List.getElem?_cons_succ, List.set_cons_zero, List.set_cons_succ, Nat.reduceSub, Nat.reduceAdd, Nat.zero_add, Bool.not_true, Bool.not_false, Bool.and_self, Bool.and_true, Bool.and_false, whole_i, whole_l, h, decide_false, Int.cast_ofNat_Int, beq_self_eq_true, Bool.false_and]
theorem isr_q (q : Rat) : F_is_ratio [rq q] w = .ok (.bl true) w := by
  have := q.den_nz
  rw [isr_2, decide_eq_true (show 1 ≤ (q.den : Int) by omega), Int.natAbs_natCast, q.reduced]
  rfl
--@small
theorem small_t {q : Rat} (h : Sm q) : F_is_small [rq q] w = .ok (.bl true) w := by
  unfold F_is_small
  simp only [bind_w, bindK_ok, bindK_ex, ret_w, fail_w, eVar_w, varK_v, eC_w, eUn_w, eBin_w, evs0_w, evs1_w, eTup_w, eLst_w, eCall_w, eIf_w, ifE_t, ifE_f, eAnd_w, andE_t, andE_f, eOr_w, orE_t, orE_f, eNot_w, eChain_w, chainM_w, eJs_w, js0, js1, chainK_t, chainK_f, eNew_w, eHand_w, handK_ok, eXf_w, tVal_w, tTru_w, tNot_w, tYes_w, tAnd_w, tOr_w, andT_t, andT_f, orT_t, orT_f, boolOf_w, truth_bl, truth_int, truth_non, truth_lst, truth_tup, truth_frz, add_int, sub_int, neg_int, lt_int, le_int, gt_int, ge_int, isNon_w, notNon_w, is_w, isNot_w, int_w, abs_w, gcd_w, tup_w, tupt_w, list_w, listl_w, len_lst, len_tup, len_frz, un1_w, bin2_w, eq_int, ne_int, eq_pair, ne_pair, ix_lst, ix_frz, ix_tup, ix_hand, itK_v, item0, item1, item2, item3, isi_int_i, isi_int_b, isi_int_n, isi_int_s, isi_int_t, isi_int_l, isi_int_f, isi_int_h, isi_bool_i, isi_bool_b, isi_bool_n, isi_bool_s, isi_bool_t, isi_bool_l, isi_bool_f, isi_bool_h, isi_str_i, isi_str_b, isi_str_n, isi_str_s, isi_str_t, isi_str_l, isi_str_f, isi_str_h, isi_tuple_i, isi_tuple_b, isi_tuple_n, isi_tuple_s, isi_tuple_t, isi_tuple_l, isi_tuple_f, isi_tuple_h, isi_list_i, isi_list_b, isi_list_n, isi_list_s, isi_list_t, isi_list_l, isi_list_f, isi_list_h, isi_dict_i, isi_dict_b, isi_dict_n, isi_dict_s, isi_dict_t, isi_dict_l, isi_dict_f, isi_dict_h, sSeq_w, seqK_nx, seqK_rt, seqK_bk, seqK_ct, seqK_ex, onK_ok, onK_ex, sNext_w, sSet_w, sOwn_w, sFrz_w, frzK_v, sApp_w, sExpr_w, sRet_w, sRetN_w, sIf_w, ifK_t, ifK_f, sBrk_w, sCnt_w, sPar_w, parK_v, sUnp_w, unpK_2, unpK_3, unpK_4, sHSet_w, hsK_0, hsK_1, hsK_2, hsK_3, sRaise_w, sFor_w, iSeq_w, seqOf_lst, seqOf_tup, seqOf_frz, iRng_w, loopK_nx, loopK_ct, loopK_bk, loopK_rt, for0, forN, loopF_nx, loopF_ct, loopF_bk, loopF_rt, loopF_ex, sWhile_w, nLc_w, lcB_ok, lc0, lcN, lcT_t, lcT_f, lcE_v, wipeE0, wipeE1, sTry_w, tryK_nx, tryK_rt, suiteK_nx, suiteK_rt, wipe0, wipe_v, wipe_n, wipe_o, call_w, callK_nx, callK_rt, callK_ex, vals0, vals1, List.length_cons, List.length_nil, List.replicate_succ, List.replicate_zero, List.cons_append, List.nil_append, List.getElem?_cons_zero, List.getElem?_cons_succ, List.set_cons_zero, List.set_cons_succ, Nat.reduceSub, Nat.reduceAdd, Nat.zero_add, Bool.not_true, Bool.not_false, Bool.and_self, Bool.and_true, Bool.and_false, isr_q, h.1, h.2.1, h.2.2, decide_true]
end K07

namespace K07
open PySem FL
variable {w : Wd}
/-! ### loads -/
structure Ld where
  w : Rat
  a : Rat
  b : Rat
def LdOk (l : Ld) : Prop := Sm l.w ∧ 0 ≤ l.w.num ∧ Sm l.a ∧ Sm l.b
abbrev ld (l : Ld) : D := .tup [rq l.w, .tup [rq l.a, rq l.b]]
abbrev gv (l : Ld) : D := .lst [rq l.w, .lst [rq l.a, rq l.b]]
theorem weight_t {q : Rat} (h : Sm q) (h0 : 0 ≤ q.num) : F_is_weight [rq q] w = .ok (.bl true) w := by
  unfold F_is_weight
  simp only [bind_w, bindK_ok, bindK_ex, ret_w, fail_w, eVar_w, varK_v, eC_w, eUn_w, eBin_w, evs0_w, evs1_w, eTup_w, eLst_w, eCall_w, eIf_w, ifE_t, ifE_f, eAnd_w, andE_t, andE_f, eOr_w, orE_t, orE_f, eNot_w, eChain_w, chainM_w, eJs_w, js0, js1, chainK_t, chainK_f, eNew_w, eHand_w, handK_ok, eXf_w, tVal_w, tTru_w, tNot_w, tYes_w, tAnd_w, tOr_w, andT_t, andT_f, orT_t, orT_f, boolOf_w, truth_bl, truth_int, truth_non, truth_lst, truth_tup, truth_frz, add_int, sub_int, neg_int, lt_int, le_int, gt_int, ge_int, isNon_w, notNon_w, is_w, isNot_w, int_w, abs_w, gcd_w, tup_w, tupt_w, list_w, listl_w, len_lst, len_tup, len_frz, un1_w, bin2_w, eq_int, ne_int, eq_pair, ne_pair, ix_lst, ix_frz, ix_tup, ix_hand, itK_v, item0, item1, item2, item3, isi_int_i, isi_int_b, isi_int_n, isi_int_s, isi_int_t, isi_int_l, isi_int_f, isi_int_h, isi_bool_i, isi_bool_b, isi_bool_n, isi_bool_s, isi_bool_t, isi_bool_l, isi_bool_f, isi_bool_h, isi_str_i, isi_str_b, isi_str_n, isi_str_s, isi_str_t, isi_str_l, isi_str_f, isi_str_h, isi_tuple_i, isi_tuple_b, isi_tuple_n, isi_tuple_s, isi_tuple_t, isi_tuple_l, isi_tuple_f, isi_tuple_h, isi_list_i, isi_list_b, isi_list_n, isi_list_s, isi_list_t, isi_list_l, isi_list_f, isi_list_h, isi_dict_i, isi_dict_b, isi_dict_n, isi_dict_s, isi_dict_t, isi_dict_l, isi_dict_f, isi_dict_h, sSeq_w, seqK_nx, seqK_rt, seqK_bk, seqK_ct, seqK_ex, onK_ok, onK_ex, sNext_w, sSet_w, sOwn_w, sFrz_w, frzK_v, sApp_w, sExpr_w, sRet_w, sRetN_w, sIf_w, ifK_t, ifK_f, sBrk_w, sCnt_w, sPar_w, parK_v, sUnp_w, unpK_2, unpK_3, unpK_4, sHSet_w, hsK_0, hsK_1, hsK_2, hsK_3, sRaise_w, sFor_w, iSeq_w, seqOf_lst, seqOf_tup, seqOf_frz, iRng_w, loopK_nx, loopK_ct, loopK_bk, loopK_rt, for0, forN, loopF_nx, loopF_ct, loopF_bk, loopF_rt, loopF_ex, sWhile_w, nLc_w, lcB_ok, lc0, lcN, lcT_t, lcT_f, lcE_v, wipeE0, wipeE1, sTry_w, tryK_nx, tryK_rt, suiteK_nx, suiteK_rt, wipe0, wipe_v, wipe_n, wipe_o, call_w, callK_nx, callK_rt, callK_ex, vals0, vals1, List.length_cons, List.length_nil, List.replicate_succ, List.replicate_zero, List.cons_append, List.nil_append, List.getElem?_cons_zero, List.getElem?_cons_succ, List.set_cons_zero, List.set_cons_succ, Nat.reduceSub, Nat.reduceAdd, Nat.zero_add, Bool.not_true, Bool.not_false, Bool.and_self, Bool.and_true, Bool.and_false, small_t h, h0, decide_true]
theorem place_t {a b : Rat} (ha : Sm a) (hb : Sm b) : F_is_place [.tup [rq a, rq b]] w = .ok (.bl true) w := by
  unfold F_is_place
  simp only [bind_w, bindK_ok, bindK_ex, ret_w, fail_w, eVar_w, varK_v, eC_w, eUn_w, eBin_w, evs0_w, evs1_w, eTup_w, eLst_w, eCall_w, eIf_w, ifE_t, ifE_f, eAnd_w, andE_t, andE_f, eOr_w, orE_t, orE_f, eNot_w, eChain_w, chainM_w, eJs_w, js0, js1, chainK_t, chainK_f, eNew_w, eHand_w, handK_ok, eXf_w, tVal_w, tTru_w, tNot_w, tYes_w, tAnd_w, tOr_w, andT_t, andT_f, orT_t, orT_f, boolOf_w, truth_bl, truth_int, truth_non, truth_lst, truth_tup, truth_frz, add_int, sub_int, neg_int, lt_int, le_int, gt_int, ge_int, isNon_w, notNon_w, is_w, isNot_w, int_w, abs_w, gcd_w, tup_w, tupt_w, list_w, listl_w, len_lst, len_tup, len_frz, un1_w, bin2_w, eq_int, ne_int, eq_pair, ne_pair, ix_lst, ix_frz, ix_tup, ix_hand, itK_v, item0, item1, item2, item3, isi_int_i, isi_int_b, isi_int_n, isi_int_s, isi_int_t, isi_int_l, isi_int_f, isi_int_h, isi_bool_i, isi_bool_b, isi_bool_n, isi_bool_s, isi_bool_t, isi_bool_l, isi_bool_f, isi_bool_h, isi_str_i, isi_str_b, isi_str_n, isi_str_s, isi_str_t, isi_str_l, isi_str_f, isi_str_h, isi_tuple_i, isi_tuple_b, isi_tuple_n, isi_tuple_s, isi_tuple_t, isi_tuple_l, isi_tuple_f, isi_tuple_h, isi_list_i, isi_list_b, isi_list_n, isi_list_s, isi_list_t, isi_list_l, isi_list_f, isi_list_h, isi_dict_i, isi_dict_b, isi_dict_n, isi_dict_s, isi_dict_t, isi_dict_l, isi_dict_f, isi_dict_h, sSeq_w, seqK_nx, seqK_rt, seqK_bk, seqK_ct, seqK_ex, onK_ok, onK_ex, sNext_w, sSet_w, sOwn_w, sFrz_w, frzK_v, sApp_w, sExpr_w, sRet_w, sRetN_w, sIf_w, ifK_t, ifK_f, sBrk_w, sCnt_w, sPar_w, parK_v, sUnp_w, unpK_2, unpK_3, unpK_4, sHSet_w, hsK_0, hsK_1, hsK_2, hsK_3, sRaise_w, sFor_w, iSeq_w, seqOf_lst, seqOf_tup, seqOf_frz, iRng_w, loopK_nx, loopK_ct, loopK_bk, loopK_rt, for0, forN, loopF_nx, loopF_ct, loopF_bk, loopF_rt, loopF_ex, sWhile_w, nLc_w, lcB_ok, lc0, lcN, lcT_t, lcT_f, lcE_v, wipeE0, wipeE1, sTry_w, tryK_nx, tryK_rt, suiteK_nx, suiteK_rt, wipe0, wipe_v, wipe_n, wipe_o, call_w, callK_nx, callK_rt, callK_ex, vals0, vals1, List.length_cons, List.length_nil, List.replicate_succ, List.replicate_zero, List.cons_append, List.nil_append, List.getElem?_cons_zero, List.getElem?_cons_succ, List.set_cons_zero, List.set_cons_succ, Nat.reduceSub, Nat.reduceAdd, Nat.zero_add, Bool.not_true, Bool.not_false, Bool.and_self, Bool.and_true, Bool.and_false, isi_lt_t, Int.cast_ofNat_Int, beq_self_eq_true, small_t ha, small_t hb]
theorem place_l {a b : Rat} (ha : Sm a) (hb : Sm b) : F_is_place [.lst [rq a, rq b]] w = .ok (.bl true) w := by
  unfold F_is_place
  simp only [bind_w, bindK_ok, bindK_ex, ret_w, fail_w, eVar_w, varK_v, eC_w, eUn_w, eBin_w, evs0_w, evs1_w, eTup_w, eLst_w, eCall_w, eIf_w, ifE_t, ifE_f, eAnd_w, andE_t, andE_f, eOr_w, orE_t, orE_f, eNot_w, eChain_w, chainM_w, eJs_w, js0, js1, chainK_t, chainK_f, eNew_w, eHand_w, handK_ok, eXf_w, tVal_w, tTru_w, tNot_w, tYes_w, tAnd_w, tOr_w, andT_t, andT_f, orT_t, orT_f, boolOf_w, truth_bl, truth_int, truth_non, truth_lst, truth_tup, truth_frz, add_int, sub_int, neg_int, lt_int, le_int, gt_int, ge_int, isNon_w, notNon_w, is_w, isNot_w, int_w, abs_w, gcd_w, tup_w, tupt_w, list_w, listl_w, len_lst, len_tup, len_frz, un1_w, bin2_w, eq_int, ne_int, eq_pair, ne_pair, ix_lst, ix_frz, ix_tup, ix_hand, itK_v, item0, item1, item2, item3, isi_int_i, isi_int_b, isi_int_n, isi_int_s, isi_int_t, isi_int_l, isi_int_f, isi_int_h, isi_bool_i, isi_bool_b, isi_bool_n, isi_bool_s, isi_bool_t, isi_bool_l, isi_bool_f, isi_bool_h, isi_str_i, isi_str_b, isi_str_n, isi_str_s, isi_str_t, isi_str_l, isi_str_f, isi_str_h, isi_tuple_i, isi_tuple_b, isi_tuple_n, isi_tuple_s, isi_tuple_t, isi_tuple_l, isi_tuple_f, isi_tuple_h, isi_list_i, isi_list_b, isi_list_n, isi_list_s, isi_list_t, isi_list_l, isi_list_f, isi_list_h, isi_dict_i, isi_dict_b, isi_dict_n, isi_dict_s, isi_dict_t, isi_dict_l, isi_dict_f, isi_dict_h, sSeq_w, seqK_nx, seqK_rt, seqK_bk, seqK_ct, seqK_ex, onK_ok, onK_ex, sNext_w, sSet_w, sOwn_w, sFrz_w, frzK_v, sApp_w, sExpr_w, sRet_w, sRetN_w, sIf_w, ifK_t, ifK_f, sBrk_w, sCnt_w, sPar_w, parK_v, sUnp_w, unpK_2, unpK_3, unpK_4, sHSet_w, hsK_0, hsK_1, hsK_2, hsK_3, sRaise_w, sFor_w, iSeq_w, seqOf_lst, seqOf_tup, seqOf_frz, iRng_w, loopK_nx, loopK_ct, loopK_bk, loopK_rt, for0, forN, loopF_nx, loopF_ct, loopF_bk, loopF_rt, loopF_ex, sWhile_w, nLc_w, lcB_ok, lc0, lcN, lcT_t, lcT_f, lcE_v, wipeE0, wipeE1, sTry_w, tryK_nx, tryK_rt, suiteK_nx, suiteK_rt, wipe0, wipe_v, wipe_n, wipe_o, call_w, callK_nx, callK_rt, callK_ex, vals0, vals1, List.length_cons, List.length_nil, List.replicate_succ, List.replicate_zero, List.cons_append, List.nil_append, List.getElem?_cons_zero, List.getElem?_cons_succ, List.set_cons_zero, List.set_cons_succ, Nat.reduceSub, Nat.reduceAdd, Nat.zero_add, Bool.not_true, Bool.not_false, Bool.and_self, Bool.and_true, Bool.and_false, isi_lt_l, Int.cast_ofNat_Int, beq_self_eq_true, small_t ha, small_t hb]
def GoodE (d : D) (l : Ld) : Prop := ∀ (k : Int) (acc : List D) (s0 : Slot) (w : Wd), acc.length < line → B_check_loads_0 [s0, .own acc, .val (.int k), .val d] w = .nx [s0, .own (acc ++ [ld l]), .val (.int k), .val d] w
def BadE (d : D) (s : Str) : Prop := ∀ (k : Int) (acc : List D) (s0 : Slot) (w : Wd), B_check_loads_0 [s0, .own acc, .val (.int k), .val d] w = .ex 2 ["index", "what"] [.int k, .str s] [s0, .own acc, .val (.int k), .val d] w
theorem good_ld {l : Ld} (h : LdOk l) : GoodE (ld l) l := fun k acc s0 w ha => by
  rw [B_check_loads_0_w]
  simp only [bind_w, bindK_ok, bindK_ex, ret_w, fail_w, eVar_w, varK_v, eC_w, eUn_w, eBin_w, evs0_w, evs1_w, eTup_w, eLst_w, eCall_w, eIf_w, ifE_t, ifE_f, eAnd_w, andE_t, andE_f, eOr_w, orE_t, orE_f, eNot_w, eChain_w, chainM_w, eJs_w, js0, js1, chainK_t, chainK_f, eNew_w, eHand_w, handK_ok, eXf_w, tVal_w, tTru_w, tNot_w, tYes_w, tAnd_w, tOr_w, andT_t, andT_f, orT_t, orT_f, boolOf_w, truth_bl, truth_int, truth_non, truth_lst, truth_tup, truth_frz, add_int, sub_int, neg_int, lt_int, le_int, gt_int, ge_int, isNon_w, notNon_w, is_w, isNot_w, int_w, abs_w, gcd_w, tup_w, tupt_w, list_w, listl_w, len_lst, len_tup, len_frz, un1_w, bin2_w, eq_int, ne_int, eq_pair, ne_pair, ix_lst, ix_frz, ix_tup, ix_hand, itK_v, item0, item1, item2, item3, isi_int_i, isi_int_b, isi_int_n, isi_int_s, isi_int_t, isi_int_l, isi_int_f, isi_int_h, isi_bool_i, isi_bool_b, isi_bool_n, isi_bool_s, isi_bool_t, isi_bool_l, isi_bool_f, isi_bool_h, isi_str_i, isi_str_b, isi_str_n, isi_str_s, isi_str_t, isi_str_l, isi_str_f, isi_str_h, isi_tuple_i, isi_tuple_b, isi_tuple_n, isi_tuple_s, isi_tuple_t, isi_tuple_l, isi_tuple_f, isi_tuple_h, isi_list_i, isi_list_b, isi_list_n, isi_list_s, isi_list_t, isi_list_l, isi_list_f, isi_list_h, isi_dict_i, isi_dict_b, isi_dict_n, isi_dict_s, isi_dict_t, isi_dict_l, isi_dict_f, isi_dict_h, sSeq_w, seqK_nx, seqK_rt, seqK_bk, seqK_ct, seqK_ex, onK_ok, onK_ex, sNext_w, sSet_w, sOwn_w, sFrz_w, frzK_v, sApp_w, sExpr_w, sRet_w, sRetN_w, sIf_w, ifK_t, ifK_f, sBrk_w, sCnt_w, sPar_w, parK_v, sUnp_w, unpK_2, unpK_3, unpK_4, sHSet_w, hsK_0, hsK_1, hsK_2, hsK_3, sRaise_w, sFor_w, iSeq_w, seqOf_lst, seqOf_tup, seqOf_frz, iRng_w, loopK_nx, loopK_ct, loopK_bk, loopK_rt, for0, forN, loopF_nx, loopF_ct, loopF_bk, loopF_rt, loopF_ex, sWhile_w, nLc_w, lcB_ok, lc0, lcN, lcT_t, lcT_f, lcE_v, wipeE0, wipeE1, sTry_w, tryK_nx, tryK_rt, suiteK_nx, suiteK_rt, wipe0, wipe_v, wipe_n, wipe_o, call_w, callK_nx, callK_rt, callK_ex, vals0, vals1, List.length_cons, List.length_nil, List.replicate_succ, List.replicate_zero, List.cons_append, List.nil_append, List.getElem?_cons_zero, List.getElem?_cons_succ, List.set_cons_zero, List.set_cons_succ, Nat.reduceSub, Nat.reduceAdd, Nat.zero_add, Bool.not_true, Bool.not_false, Bool.and_self, Bool.and_true, Bool.and_false, isi_lt_t, Int.cast_ofNat_Int, beq_self_eq_true, weight_t h.1 h.2.1, place_t h.2.2.1 h.2.2.2, appK_v 1 _ ha]
theorem good_gv {l : Ld} (h : LdOk l) : GoodE (gv l) l := fun k acc s0 w ha => by
  rw [B_check_loads_0_w]
  simp only [bind_w, bindK_ok, bindK_ex, ret_w, fail_w, eVar_w, varK_v, eC_w, eUn_w, eBin_w, evs0_w, evs1_w, eTup_w, eLst_w, eCall_w, eIf_w, ifE_t, ifE_f, eAnd_w, andE_t, andE_f, eOr_w, orE_t, orE_f, eNot_w, eChain_w, chainM_w, eJs_w, js0, js1, chainK_t, chainK_f, eNew_w, eHand_w, handK_ok, eXf_w, tVal_w, tTru_w, tNot_w, tYes_w, tAnd_w, tOr_w, andT_t, andT_f, orT_t, orT_f, boolOf_w, truth_bl, truth_int, truth_non, truth_lst, truth_tup, truth_frz, add_int, sub_int, neg_int, lt_int, le_int, gt_int, ge_int, isNon_w, notNon_w, is_w, isNot_w, int_w, abs_w, gcd_w, tup_w, tupt_w, list_w, listl_w, len_lst, len_tup, len_frz, un1_w, bin2_w, eq_int, ne_int, eq_pair, ne_pair, ix_lst, ix_frz, ix_tup, ix_hand, itK_v, item0, item1, item2, item3, isi_int_i, isi_int_b, isi_int_n, isi_int_s, isi_int_t, isi_int_l, isi_int_f, isi_int_h, isi_bool_i, isi_bool_b, isi_bool_n, isi_bool_s, isi_bool_t, isi_bool_l, isi_bool_f, isi_bool_h, isi_str_i, isi_str_b, isi_str_n, isi_str_s, isi_str_t, isi_str_l, isi_str_f, isi_str_h, isi_tuple_i, isi_tuple_b, isi_tuple_n, isi_tuple_s, isi_tuple_t, isi_tuple_l, isi_tuple_f, isi_tuple_h, isi_list_i, isi_list_b, isi_list_n, isi_list_s, isi_list_t, isi_list_l, isi_list_f, isi_list_h, isi_dict_i, isi_dict_b, isi_dict_n, isi_dict_s, isi_dict_t, isi_dict_l, isi_dict_f, isi_dict_h, sSeq_w, seqK_nx, seqK_rt, seqK_bk, seqK_ct, seqK_ex, onK_ok, onK_ex, sNext_w, sSet_w, sOwn_w, sFrz_w, frzK_v, sApp_w, sExpr_w, sRet_w, sRetN_w, sIf_w, ifK_t, ifK_f, sBrk_w, sCnt_w, sPar_w, parK_v, sUnp_w, unpK_2, unpK_3, unpK_4, sHSet_w, hsK_0, hsK_1, hsK_2, hsK_3, sRaise_w, sFor_w, iSeq_w, seqOf_lst, seqOf_tup, seqOf_frz, iRng_w, loopK_nx, loopK_ct, loopK_bk, loopK_rt, for0, forN, loopF_nx, loopF_ct, loopF_bk, loopF_rt, loopF_ex, sWhile_w, nLc_w, lcB_ok, lc0, lcN, lcT_t, lcT_f, lcE_v, wipeE0, wipeE1, sTry_w, tryK_nx, tryK_rt, suiteK_nx, suiteK_rt, wipe0, wipe_v, wipe_n, wipe_o, call_w, callK_nx, callK_rt, callK_ex, vals0, vals1, List.length_cons, List.length_nil, List.replicate_succ, List.replicate_zero, List.cons_append, List.nil_append, List.getElem?_cons_zero, List.getElem?_cons_succ, List.set_cons_zero, List.set_cons_succ, Nat.reduceSub, Nat.reduceAdd, Nat.zero_add, Bool.not_true, Bool.not_false, Bool.and_self, Bool.and_true, Bool.and_false, isi_lt_l, Int.cast_ofNat_Int, beq_self_eq_true, weight_t h.1 h.2.1, place_l h.2.2.1 h.2.2.2, appK_v 1 _ ha]
theorem chkG {f : Ld → D} : ∀ (ls : List Ld) (n : Nat) (acc : List D) (s0 s2 s3 : Slot), (∀ l ∈ ls, GoodE (f l) l) → acc.length + ls.length < line → ∃ s2' s3', forL (gT [2, 3]) B_check_loads_0 (enumAt n (ls.map f)) [s0, .own acc, s2, s3] w = .nx [s0, .own (acc ++ ls.map ld), s2', s3'] w
  | [], n, acc, s0, s2, s3, _, _ => ⟨s2, s3, by rw [List.map_nil, List.map_nil, List.append_nil]; rfl⟩
  | l :: ls, n, acc, s0, s2, s3, h, hl => by
    rw [List.length_cons] at hl
    obtain ⟨s2', s3', e⟩ := chkG ls (n + 1) (acc ++ [ld l]) s0 (.val (.int n)) (.val (f l)) (fun y hy => h y (List.mem_cons_of_mem _ hy)) (by rw [List.length_append, List.length_cons, List.length_nil]; omega)
    refine ⟨s2', s3', ?_⟩
    rw [List.map_cons, List.map_cons]
    show forL _ _ (.tup [.int (n : Int), f l] :: enumAt (n + 1) (ls.map f)) _ _ = _
    rw [forT2]
    simp only [bind_w, bindK_ok, bindK_ex, ret_w, fail_w, eVar_w, varK_v, eC_w, eUn_w, eBin_w, evs0_w, evs1_w, eTup_w, eLst_w, eCall_w, eIf_w, ifE_t, ifE_f, eAnd_w, andE_t, andE_f, eOr_w, orE_t, orE_f, eNot_w, eChain_w, chainM_w, eJs_w, js0, js1, chainK_t, chainK_f, eNew_w, eHand_w, handK_ok, eXf_w, tVal_w, tTru_w, tNot_w, tYes_w, tAnd_w, tOr_w, andT_t, andT_f, orT_t, orT_f, boolOf_w, truth_bl, truth_int, truth_non, truth_lst, truth_tup, truth_frz, add_int, sub_int, neg_int, lt_int, le_int, gt_int, ge_int, isNon_w, notNon_w, is_w, isNot_w, int_w, abs_w, gcd_w, tup_w, tupt_w, list_w, listl_w, len_lst, len_tup, len_frz, un1_w, bin2_w, eq_int, ne_int, eq_pair, ne_pair, ix_lst, ix_frz, ix_tup, ix_hand, itK_v, item0, item1, item2, item3, isi_int_i, isi_int_b, isi_int_n, isi_int_s, isi_int_t, isi_int_l, isi_int_f, isi_int_h, isi_bool_i, isi_bool_b, isi_bool_n, isi_bool_s, isi_bool_t, isi_bool_l, isi_bool_f, isi_bool_h, isi_str_i, isi_str_b, isi_str_n, isi_str_s, isi_str_t, isi_str_l, isi_str_f, isi_str_h, isi_tuple_i, isi_tuple_b, isi_tuple_n, isi_tuple_s, isi_tuple_t, isi_tuple_l, isi_tuple_f, isi_tuple_h, isi_list_i, isi_list_b, isi_list_n, isi_list_s, isi_list_t, isi_list_l, isi_list_f, isi_list_h, isi_dict_i, isi_dict_b, isi_dict_n, isi_dict_s, isi_dict_t, isi_dict_l, isi_dict_f, isi_dict_h, sSeq_w, seqK_nx, seqK_rt, seqK_bk, seqK_ct, seqK_ex, onK_ok, onK_ex, sNext_w, sSet_w, sOwn_w, sFrz_w, frzK_v, sApp_w, sExpr_w, sRet_w, sRetN_w, sIf_w, ifK_t, ifK_f, sBrk_w, sCnt_w, sPar_w, parK_v, sUnp_w, unpK_2, unpK_3, unpK_4, sHSet_w, hsK_0, hsK_1, hsK_2, hsK_3, sRaise_w, sFor_w, iSeq_w, seqOf_lst, seqOf_tup, seqOf_frz, iRng_w, loopK_nx, loopK_ct, loopK_bk, loopK_rt, for0, forN, loopF_nx, loopF_ct, loopF_bk, loopF_rt, loopF_ex, sWhile_w, nLc_w, lcB_ok, lc0, lcN, lcT_t, lcT_f, lcE_v, wipeE0, wipeE1, sTry_w, tryK_nx, tryK_rt, suiteK_nx, suiteK_rt, wipe0, wipe_v, wipe_n, wipe_o, call_w, callK_nx, callK_rt, callK_ex, vals0, vals1, List.length_cons, List.length_nil, List.replicate_succ, List.replicate_zero, List.cons_append, List.nil_append, List.getElem?_cons_zero, List.getElem?_cons_succ, List.set_cons_zero, List.set_cons_succ, Nat.reduceSub, Nat.reduceAdd, Nat.zero_add, Bool.not_true, Bool.not_false, Bool.and_self, Bool.and_true, Bool.and_false, h l (List.mem_cons_self ..) (n : Int) acc s0 w (by omega)]
    rw [e, List.append_assoc]
    rfl
theorem check_w {f : Ld → D} {c : List D → D} (hc : c = D.lst ∨ c = D.tup) {ls : List Ld} (h : ∀ l ∈ ls, GoodE (f l) l) (hl : ls.length ≤ 8) : F_check_loads [c (ls.map f)] w = .ok (.tup (ls.map ld)) w := by
  have l8 : decide ((8 : Int) < ((ls.map f).length : Int)) = false := decide_eq_false (by rw [List.length_map]; omega)
  obtain ⟨s2', s3', e⟩ := chkG (w := w) ls 0 [] (.val (c (ls.map f))) .none .none h (by unfold line; simp only [List.length_nil]; omega)
  unfold F_check_loads
  rcases hc with rfl | rfl
  · simp only [bind_w, bindK_ok, bindK_ex, ret_w, fail_w, eVar_w, varK_v, eC_w, eUn_w, eBin_w, evs0_w, evs1_w, eTup_w, eLst_w, eCall_w, eIf_w, ifE_t, ifE_f, eAnd_w, andE_t, andE_f, eOr_w, orE_t, orE_f, eNot_w, eChain_w, chainM_w, eJs_w, js0, js1, chainK_t, chainK_f, eNew_w, eHand_w, handK_ok, eXf_w, tVal_w, tTru_w, tNot_w, tYes_w, tAnd_w, tOr_w, andT_t, andT_f, orT_t, orT_f, boolOf_w, truth_bl, truth_int, truth_non, truth_lst, truth_tup, truth_frz, add_int, sub_int, neg_int, lt_int, le_int, gt_int, ge_int, isNon_w, notNon_w, is_w, isNot_w, int_w, abs_w, gcd_w, tup_w, tupt_w, list_w, listl_w, len_lst, len_tup, len_frz, un1_w, bin2_w, eq_int, ne_int, eq_pair, ne_pair, ix_lst, ix_frz, ix_tup, ix_hand, itK_v, item0, item1, item2, item3, isi_int_i, isi_int_b, isi_int_n, isi_int_s, isi_int_t, isi_int_l, isi_int_f, isi_int_h, isi_bool_i, isi_bool_b, isi_bool_n, isi_bool_s, isi_bool_t, isi_bool_l, isi_bool_f, isi_bool_h, isi_str_i, isi_str_b, isi_str_n, isi_str_s, isi_str_t, isi_str_l, isi_str_f, isi_str_h, isi_tuple_i, isi_tuple_b, isi_tuple_n, isi_tuple_s, isi_tuple_t, isi_tuple_l, isi_tuple_f, isi_tuple_h, isi_list_i, isi_list_b, isi_list_n, isi_list_s, isi_list_t, isi_list_l, isi_list_f, isi_list_h, isi_dict_i, isi_dict_b, isi_dict_n, isi_dict_s, isi_dict_t, isi_dict_l, isi_dict_f, isi_dict_h, sSeq_w, seqK_nx, seqK_rt, seqK_bk, seqK_ct, seqK_ex, onK_ok, onK_ex, sNext_w, sSet_w, sOwn_w, sFrz_w, frzK_v, sApp_w, sExpr_w, sRet_w, sRetN_w, sIf_w, ifK_t, ifK_f, sBrk_w, sCnt_w, sPar_w, parK_v, sUnp_w, unpK_2, unpK_3, unpK_4, sHSet_w, hsK_0, hsK_1, hsK_2, hsK_3, sRaise_w, sFor_w, iSeq_w, seqOf_lst, seqOf_tup, seqOf_frz, iRng_w, loopK_nx, loopK_ct, loopK_bk, loopK_rt, for0, forN, loopF_nx, loopF_ct, loopF_bk, loopF_rt, loopF_ex, sWhile_w, nLc_w, lcB_ok, lc0, lcN, lcT_t, lcT_f, lcE_v, wipeE0, wipeE1, sTry_w, tryK_nx, tryK_rt, suiteK_nx, suiteK_rt, wipe0, wipe_v, wipe_n, wipe_o, call_w, callK_nx, callK_rt, callK_ex, vals0, vals1, List.length_cons, List.length_nil, List.replicate_succ, List.replicate_zero, List.cons_append, List.nil_append, List.getElem?_cons_zero, List.getElem?_cons_succ, List.set_cons_zero, List.set_cons_succ, Nat.reduceSub, Nat.reduceAdd, Nat.zero_add, Bool.not_true, Bool.not_false, Bool.and_self, Bool.and_true, Bool.and_false, isi_lt_l, l8, iEnum_w]
    rw [e]
    simp only [bind_w, bindK_ok, bindK_ex, ret_w, fail_w, eVar_w, varK_v, eC_w, eUn_w, eBin_w, evs0_w, evs1_w, eTup_w, eLst_w, eCall_w, eIf_w, ifE_t, ifE_f, eAnd_w, andE_t, andE_f, eOr_w, orE_t, orE_f, eNot_w, eChain_w, chainM_w, eJs_w, js0, js1, chainK_t, chainK_f, eNew_w, eHand_w, handK_ok, eXf_w, tVal_w, tTru_w, tNot_w, tYes_w, tAnd_w, tOr_w, andT_t, andT_f, orT_t, orT_f, boolOf_w, truth_bl, truth_int, truth_non, truth_lst, truth_tup, truth_frz, add_int, sub_int, neg_int, lt_int, le_int, gt_int, ge_int, isNon_w, notNon_w, is_w, isNot_w, int_w, abs_w, gcd_w, tup_w, tupt_w, list_w, listl_w, len_lst, len_tup, len_frz, un1_w, bin2_w, eq_int, ne_int, eq_pair, ne_pair, ix_lst, ix_frz, ix_tup, ix_hand, itK_v, item0, item1, item2, item3, isi_int_i, isi_int_b, isi_int_n, isi_int_s, isi_int_t, isi_int_l, isi_int_f, isi_int_h, isi_bool_i, isi_bool_b, isi_bool_n, isi_bool_s, isi_bool_t, isi_bool_l, isi_bool_f, isi_bool_h, isi_str_i, isi_str_b, isi_str_n, isi_str_s, isi_str_t, isi_str_l, isi_str_f, isi_str_h, isi_tuple_i, isi_tuple_b, isi_tuple_n, isi_tuple_s, isi_tuple_t, isi_tuple_l, isi_tuple_f, isi_tuple_h, isi_list_i, isi_list_b, isi_list_n, isi_list_s, isi_list_t, isi_list_l, isi_list_f, isi_list_h, isi_dict_i, isi_dict_b, isi_dict_n, isi_dict_s, isi_dict_t, isi_dict_l, isi_dict_f, isi_dict_h, sSeq_w, seqK_nx, seqK_rt, seqK_bk, seqK_ct, seqK_ex, onK_ok, onK_ex, sNext_w, sSet_w, sOwn_w, sFrz_w, frzK_v, sApp_w, sExpr_w, sRet_w, sRetN_w, sIf_w, ifK_t, ifK_f, sBrk_w, sCnt_w, sPar_w, parK_v, sUnp_w, unpK_2, unpK_3, unpK_4, sHSet_w, hsK_0, hsK_1, hsK_2, hsK_3, sRaise_w, sFor_w, iSeq_w, seqOf_lst, seqOf_tup, seqOf_frz, iRng_w, loopK_nx, loopK_ct, loopK_bk, loopK_rt, for0, forN, loopF_nx, loopF_ct, loopF_bk, loopF_rt, loopF_ex, sWhile_w, nLc_w, lcB_ok, lc0, lcN, lcT_t, lcT_f, lcE_v, wipeE0, wipeE1, sTry_w, tryK_nx, tryK_rt, suiteK_nx, suiteK_rt, wipe0, wipe_v, wipe_n, wipe_o, call_w, callK_nx, callK_rt, callK_ex, vals0, vals1, List.length_cons, List.length_nil, List.replicate_succ, List.replicate_zero, List.cons_append, List.nil_append, List.getElem?_cons_zero, List.getElem?_cons_succ, List.set_cons_zero, List.set_cons_succ, Nat.reduceSub, Nat.reduceAdd, Nat.zero_add, Bool.not_true, Bool.not_false, Bool.and_self, Bool.and_true, Bool.and_false]
  · simp only [bind_w, bindK_ok, bindK_ex, ret_w, fail_w, eVar_w, varK_v, eC_w, eUn_w, eBin_w, evs0_w, evs1_w, eTup_w, eLst_w, eCall_w, eIf_w, ifE_t, ifE_f, eAnd_w, andE_t, andE_f, eOr_w, orE_t, orE_f, eNot_w, eChain_w, chainM_w, eJs_w, js0, js1, chainK_t, chainK_f, eNew_w, eHand_w, handK_ok, eXf_w, tVal_w, tTru_w, tNot_w, tYes_w, tAnd_w, tOr_w, andT_t, andT_f, orT_t, orT_f, boolOf_w, truth_bl, truth_int, truth_non, truth_lst, truth_tup, truth_frz, add_int, sub_int, neg_int, lt_int, le_int, gt_int, ge_int, isNon_w, notNon_w, is_w, isNot_w, int_w, abs_w, gcd_w, tup_w, tupt_w, list_w, listl_w, len_lst, len_tup, len_frz, un1_w, bin2_w, eq_int, ne_int, eq_pair, ne_pair, ix_lst, ix_frz, ix_tup, ix_hand, itK_v, item0, item1, item2, item3, isi_int_i, isi_int_b, isi_int_n, isi_int_s, isi_int_t, isi_int_l, isi_int_f, isi_int_h, isi_bool_i, isi_bool_b, isi_bool_n, isi_bool_s, isi_bool_t, isi_bool_l, isi_bool_f, isi_bool_h, isi_str_i, isi_str_b, isi_str_n, isi_str_s, isi_str_t, isi_str_l, isi_str_f, isi_str_h, isi_tuple_i, isi_tuple_b, isi_tuple_n, isi_tuple_s, isi_tuple_t, isi_tuple_l, isi_tuple_f, isi_tuple_h, isi_list_i, isi_list_b, isi_list_n, isi_list_s, isi_list_t, isi_list_l, isi_list_f, isi_list_h, isi_dict_i, isi_dict_b, isi_dict_n, isi_dict_s, isi_dict_t, isi_dict_l, isi_dict_f, isi_dict_h, sSeq_w, seqK_nx, seqK_rt, seqK_bk, seqK_ct, seqK_ex, onK_ok, onK_ex, sNext_w, sSet_w, sOwn_w, sFrz_w, frzK_v, sApp_w, sExpr_w, sRet_w, sRetN_w, sIf_w, ifK_t, ifK_f, sBrk_w, sCnt_w, sPar_w, parK_v, sUnp_w, unpK_2, unpK_3, unpK_4, sHSet_w, hsK_0, hsK_1, hsK_2, hsK_3, sRaise_w, sFor_w, iSeq_w, seqOf_lst, seqOf_tup, seqOf_frz, iRng_w, loopK_nx, loopK_ct, loopK_bk, loopK_rt, for0, forN, loopF_nx, loopF_ct, loopF_bk, loopF_rt, loopF_ex, sWhile_w, nLc_w, lcB_ok, lc0, lcN, lcT_t, lcT_f, lcE_v, wipeE0, wipeE1, sTry_w, tryK_nx, tryK_rt, suiteK_nx, suiteK_rt, wipe0, wipe_v, wipe_n, wipe_o, call_w, callK_nx, callK_rt, callK_ex, vals0, vals1, List.length_cons, List.length_nil, List.replicate_succ, List.replicate_zero, List.cons_append, List.nil_append, List.getElem?_cons_zero, List.getElem?_cons_succ, List.set_cons_zero, List.set_cons_succ, Nat.reduceSub, Nat.reduceAdd, Nat.zero_add, Bool.not_true, Bool.not_false, Bool.and_self, Bool.and_true, Bool.and_false, isi_lt_t, l8, iEnum_w]
    rw [e]
    simp only [bind_w, bindK_ok, bindK_ex, ret_w, fail_w, eVar_w, varK_v, eC_w, eUn_w, eBin_w, evs0_w, evs1_w, eTup_w, eLst_w, eCall_w, eIf_w, ifE_t, ifE_f, eAnd_w, andE_t, andE_f, eOr_w, orE_t, orE_f, eNot_w, eChain_w, chainM_w, eJs_w, js0, js1, chainK_t, chainK_f, eNew_w, eHand_w, handK_ok, eXf_w, tVal_w, tTru_w, tNot_w, tYes_w, tAnd_w, tOr_w, andT_t, andT_f, orT_t, orT_f, boolOf_w, truth_bl, truth_int, truth_non, truth_lst, truth_tup, truth_frz, add_int, sub_int, neg_int, lt_int, le_int, gt_int, ge_int, isNon_w, notNon_w, is_w, isNot_w, int_w, abs_w, gcd_w, tup_w, tupt_w, list_w, listl_w, len_lst, len_tup, len_frz, un1_w, bin2_w, eq_int, ne_int, eq_pair, ne_pair, ix_lst, ix_frz, ix_tup, ix_hand, itK_v, item0, item1, item2, item3, isi_int_i, isi_int_b, isi_int_n, isi_int_s, isi_int_t, isi_int_l, isi_int_f, isi_int_h, isi_bool_i, isi_bool_b, isi_bool_n, isi_bool_s, isi_bool_t, isi_bool_l, isi_bool_f, isi_bool_h, isi_str_i, isi_str_b, isi_str_n, isi_str_s, isi_str_t, isi_str_l, isi_str_f, isi_str_h, isi_tuple_i, isi_tuple_b, isi_tuple_n, isi_tuple_s, isi_tuple_t, isi_tuple_l, isi_tuple_f, isi_tuple_h, isi_list_i, isi_list_b, isi_list_n, isi_list_s, isi_list_t, isi_list_l, isi_list_f, isi_list_h, isi_dict_i, isi_dict_b, isi_dict_n, isi_dict_s, isi_dict_t, isi_dict_l, isi_dict_f, isi_dict_h, sSeq_w, seqK_nx, seqK_rt, seqK_bk, seqK_ct, seqK_ex, onK_ok, onK_ex, sNext_w, sSet_w, sOwn_w, sFrz_w, frzK_v, sApp_w, sExpr_w, sRet_w, sRetN_w, sIf_w, ifK_t, ifK_f, sBrk_w, sCnt_w, sPar_w, parK_v, sUnp_w, unpK_2, unpK_3, unpK_4, sHSet_w, hsK_0, hsK_1, hsK_2, hsK_3, sRaise_w, sFor_w, iSeq_w, seqOf_lst, seqOf_tup, seqOf_frz, iRng_w, loopK_nx, loopK_ct, loopK_bk, loopK_rt, for0, forN, loopF_nx, loopF_ct, loopF_bk, loopF_rt, loopF_ex, sWhile_w, nLc_w, lcB_ok, lc0, lcN, lcT_t, lcT_f, lcE_v, wipeE0, wipeE1, sTry_w, tryK_nx, tryK_rt, suiteK_nx, suiteK_rt, wipe0, wipe_v, wipe_n, wipe_o, call_w, callK_nx, callK_rt, callK_ex, vals0, vals1, List.length_cons, List.length_nil, List.replicate_succ, List.replicate_zero, List.cons_append, List.nil_append, List.getElem?_cons_zero, List.getElem?_cons_succ, List.set_cons_zero, List.set_cons_succ, Nat.reduceSub, Nat.reduceAdd, Nat.zero_add, Bool.not_true, Bool.not_false, Bool.and_self, Bool.and_true, Bool.and_false]
theorem try_w {f : Ld → D} {c : List D → D} (hc : c = D.lst ∨ c = D.tup) {ls : List Ld} (h : ∀ l ∈ ls, GoodE (f l) l) (hl : ls.length ≤ 8) : F__law_try [c (ls.map f)] w = .ok (.tup (ls.map ld)) w := by
  unfold F__law_try
  simp only [bind_w, bindK_ok, bindK_ex, ret_w, fail_w, eVar_w, varK_v, eC_w, eUn_w, eBin_w, evs0_w, evs1_w, eTup_w, eLst_w, eCall_w, eIf_w, ifE_t, ifE_f, eAnd_w, andE_t, andE_f, eOr_w, orE_t, orE_f, eNot_w, eChain_w, chainM_w, eJs_w, js0, js1, chainK_t, chainK_f, eNew_w, eHand_w, handK_ok, eXf_w, tVal_w, tTru_w, tNot_w, tYes_w, tAnd_w, tOr_w, andT_t, andT_f, orT_t, orT_f, boolOf_w, truth_bl, truth_int, truth_non, truth_lst, truth_tup, truth_frz, add_int, sub_int, neg_int, lt_int, le_int, gt_int, ge_int, isNon_w, notNon_w, is_w, isNot_w, int_w, abs_w, gcd_w, tup_w, tupt_w, list_w, listl_w, len_lst, len_tup, len_frz, un1_w, bin2_w, eq_int, ne_int, eq_pair, ne_pair, ix_lst, ix_frz, ix_tup, ix_hand, itK_v, item0, item1, item2, item3, isi_int_i, isi_int_b, isi_int_n, isi_int_s, isi_int_t, isi_int_l, isi_int_f, isi_int_h, isi_bool_i, isi_bool_b, isi_bool_n, isi_bool_s, isi_bool_t, isi_bool_l, isi_bool_f, isi_bool_h, isi_str_i, isi_str_b, isi_str_n, isi_str_s, isi_str_t, isi_str_l, isi_str_f, isi_str_h, isi_tuple_i, isi_tuple_b, isi_tuple_n, isi_tuple_s, isi_tuple_t, isi_tuple_l, isi_tuple_f, isi_tuple_h, isi_list_i, isi_list_b, isi_list_n, isi_list_s, isi_list_t, isi_list_l, isi_list_f, isi_list_h, isi_dict_i, isi_dict_b, isi_dict_n, isi_dict_s, isi_dict_t, isi_dict_l, isi_dict_f, isi_dict_h, sSeq_w, seqK_nx, seqK_rt, seqK_bk, seqK_ct, seqK_ex, onK_ok, onK_ex, sNext_w, sSet_w, sOwn_w, sFrz_w, frzK_v, sApp_w, sExpr_w, sRet_w, sRetN_w, sIf_w, ifK_t, ifK_f, sBrk_w, sCnt_w, sPar_w, parK_v, sUnp_w, unpK_2, unpK_3, unpK_4, sHSet_w, hsK_0, hsK_1, hsK_2, hsK_3, sRaise_w, sFor_w, iSeq_w, seqOf_lst, seqOf_tup, seqOf_frz, iRng_w, loopK_nx, loopK_ct, loopK_bk, loopK_rt, for0, forN, loopF_nx, loopF_ct, loopF_bk, loopF_rt, loopF_ex, sWhile_w, nLc_w, lcB_ok, lc0, lcN, lcT_t, lcT_f, lcE_v, wipeE0, wipeE1, sTry_w, tryK_nx, tryK_rt, suiteK_nx, suiteK_rt, wipe0, wipe_v, wipe_n, wipe_o, call_w, callK_nx, callK_rt, callK_ex, vals0, vals1, List.length_cons, List.length_nil, List.replicate_succ, List.replicate_zero, List.cons_append, List.nil_append, List.getElem?_cons_zero, List.getElem?_cons_succ, List.set_cons_zero, List.set_cons_succ, Nat.reduceSub, Nat.reduceAdd, Nat.zero_add, Bool.not_true, Bool.not_false, Bool.and_self, Bool.and_true, Bool.and_false, check_w hc h hl]
/-! ### sums -/
def LdSz (k : Nat) (l : Ld) : Prop := SzQ k l.w ∧ SzQ k l.a ∧ SzQ k l.b
def sW (ls : List Ld) : Rat := sumQ (ls.map fun l => l.w)
def sA (ls : List Ld) : Rat := sumQ (ls.map fun l => l.w * l.a)
def sB (ls : List Ld) : Rat := sumQ (ls.map fun l => l.w * l.b)
section
variable {f : Ld → D} {c : List D → D} {ls : List Ld} {k : Nat} (hf : f = ld ∨ f = gv) (hc : c = D.lst ∨ c = D.tup) (h : ∀ l ∈ ls, LdSz k l) (hl : 2 + (ls.length * (k + k + 1) + ls.length * (k + k + 1)) < 9000)
include h hl
theorem szW : SzQ (1 + ls.length * (k + 1)) (sW ls) := by
  have := szq_sum (k := k) (ls.map fun l => l.w) fun x hx => by
    obtain ⟨l, hl, rfl⟩ := List.mem_map.mp hx
    exact (h l hl).1
  rwa [List.length_map] at this
theorem szA : SzQ (1 + ls.length * (k + k + 1)) (sA ls) := by
  have := szq_sum (k := k + k) (ls.map fun l => l.w * l.a) fun x hx => by
    obtain ⟨l, hl, rfl⟩ := List.mem_map.mp hx
    exact (h l hl).1.mul (h l hl).2.1
  rwa [List.length_map] at this
theorem szB : SzQ (1 + ls.length * (k + k + 1)) (sB ls) := by
  have := szq_sum (k := k + k) (ls.map fun l => l.w * l.b) fun x hx => by
    obtain ⟨l, hl, rfl⟩ := List.mem_map.mp hx
    exact (h l hl).1.mul (h l hl).2.2
  rwa [List.length_map] at this
theorem lenl : (ls.map f).length ≤ line := by
  rw [List.length_map]
  unfold line
  have : ls.length * 1 ≤ ls.length * (k + k + 1) := Nat.mul_le_mul_left _ (by omega)
  omega
theorem ksm (l : Ld) (hm : l ∈ ls) : k + k < 9000 := by
  have : 1 * (k + k + 1) ≤ ls.length * (k + k + 1) := Nat.mul_le_mul_right _ (by have := List.length_pos_of_mem hm; omega)
  omega
theorem bndW : 1 + ls.length * (k + 1) < 9000 := by
  have : ls.length * (k + 1) ≤ ls.length * (k + k + 1) := Nat.mul_le_mul_left _ (by omega)
  omega
theorem totsum : F_sum_of [.lst (ls.map fun l => rq l.w)] w = .ok (rq (sW ls)) w := by
  have := sum_q (w := w) (k := k) (xs := ls.map fun l => l.w) (fun x hx => by
    obtain ⟨l, hl, rfl⟩ := List.mem_map.mp hx
    exact (h l hl).1) (by rw [List.length_map]; exact bndW h hl)
  rwa [List.map_map] at this
theorem asum : F_sum_of [.lst (ls.map fun l => rq (l.w * l.a))] w = .ok (rq (sA ls)) w := by
  have := sum_q (w := w) (k := k + k) (xs := ls.map fun l => l.w * l.a) (fun x hx => by
    obtain ⟨l, hl, rfl⟩ := List.mem_map.mp hx
    exact (h l hl).1.mul (h l hl).2.1) (by rw [List.length_map]; omega)
  rwa [List.map_map] at this
theorem bsum : F_sum_of [.lst (ls.map fun l => rq (l.w * l.b))] w = .ok (rq (sB ls)) w := by
  have := sum_q (w := w) (k := k + k) (xs := ls.map fun l => l.w * l.b) (fun x hx => by
    obtain ⟨l, hl, rfl⟩ := List.mem_map.mp hx
    exact (h l hl).1.mul (h l hl).2.2) (by rw [List.length_map]; omega)
  rwa [List.map_map] at this
include hf hc
theorem total_w : F_total_of [c (ls.map f)] w = .ok (rq (sW ls)) w := by
  have ll := lenl (f := f) h hl
  have ts := totsum (w := w) h hl
  unfold F_total_of
  rcases hc with rfl | rfl <;> rcases hf with rfl | rfl
  all_goals
    simp only [bind_w, bindK_ok, bindK_ex, ret_w, fail_w, eVar_w, varK_v, eC_w, eUn_w, eBin_w, evs0_w, evs1_w, eTup_w, eLst_w, eCall_w, eIf_w, ifE_t, ifE_f, eAnd_w, andE_t, andE_f, eOr_w, orE_t, orE_f, eNot_w, eChain_w, chainM_w, eJs_w, js0, js1, chainK_t, chainK_f, eNew_w, eHand_w, handK_ok, eXf_w, tVal_w, tTru_w, tNot_w, tYes_w, tAnd_w, tOr_w, andT_t, andT_f, orT_t, orT_f, boolOf_w, truth_bl, truth_int, truth_non, truth_lst, truth_tup, truth_frz, add_int, sub_int, neg_int, lt_int, le_int, gt_int, ge_int, isNon_w, notNon_w, is_w, isNot_w, int_w, abs_w, gcd_w, tup_w, tupt_w, list_w, listl_w, len_lst, len_tup, len_frz, un1_w, bin2_w, eq_int, ne_int, eq_pair, ne_pair, ix_lst, ix_frz, ix_tup, ix_hand, itK_v, item0, item1, item2, item3, isi_int_i, isi_int_b, isi_int_n, isi_int_s, isi_int_t, isi_int_l, isi_int_f, isi_int_h, isi_bool_i, isi_bool_b, isi_bool_n, isi_bool_s, isi_bool_t, isi_bool_l, isi_bool_f, isi_bool_h, isi_str_i, isi_str_b, isi_str_n, isi_str_s, isi_str_t, isi_str_l, isi_str_f, isi_str_h, isi_tuple_i, isi_tuple_b, isi_tuple_n, isi_tuple_s, isi_tuple_t, isi_tuple_l, isi_tuple_f, isi_tuple_h, isi_list_i, isi_list_b, isi_list_n, isi_list_s, isi_list_t, isi_list_l, isi_list_f, isi_list_h, isi_dict_i, isi_dict_b, isi_dict_n, isi_dict_s, isi_dict_t, isi_dict_l, isi_dict_f, isi_dict_h, sSeq_w, seqK_nx, seqK_rt, seqK_bk, seqK_ct, seqK_ex, onK_ok, onK_ex, sNext_w, sSet_w, sOwn_w, sFrz_w, frzK_v, sApp_w, sExpr_w, sRet_w, sRetN_w, sIf_w, ifK_t, ifK_f, sBrk_w, sCnt_w, sPar_w, parK_v, sUnp_w, unpK_2, unpK_3, unpK_4, sHSet_w, hsK_0, hsK_1, hsK_2, hsK_3, sRaise_w, sFor_w, iSeq_w, seqOf_lst, seqOf_tup, seqOf_frz, iRng_w, loopK_nx, loopK_ct, loopK_bk, loopK_rt, for0, forN, loopF_nx, loopF_ct, loopF_bk, loopF_rt, loopF_ex, sWhile_w, nLc_w, lcB_ok, lc0, lcN, lcT_t, lcT_f, lcE_v, wipeE0, wipeE1, sTry_w, tryK_nx, tryK_rt, suiteK_nx, suiteK_rt, wipe0, wipe_v, wipe_n, wipe_o, call_w, callK_nx, callK_rt, callK_ex, vals0, vals1, List.length_cons, List.length_nil, List.replicate_succ, List.replicate_zero, List.cons_append, List.nil_append, List.getElem?_cons_zero, List.getElem?_cons_succ, List.set_cons_zero, List.set_cons_succ, Nat.reduceSub, Nat.reduceAdd, Nat.zero_add, Bool.not_true, Bool.not_false, Bool.and_self, Bool.and_true, Bool.and_false, lcM_v _ _ _ _ ll]
    rw [lcMap (g := fun l => rq l.w) 1 _ ls (fun l hm => by simp only [bind_w, bindK_ok, bindK_ex, ret_w, fail_w, eVar_w, varK_v, eC_w, eUn_w, eBin_w, evs0_w, evs1_w, eTup_w, eLst_w, eCall_w, eIf_w, ifE_t, ifE_f, eAnd_w, andE_t, andE_f, eOr_w, orE_t, orE_f, eNot_w, eChain_w, chainM_w, eJs_w, js0, js1, chainK_t, chainK_f, eNew_w, eHand_w, handK_ok, eXf_w, tVal_w, tTru_w, tNot_w, tYes_w, tAnd_w, tOr_w, andT_t, andT_f, orT_t, orT_f, boolOf_w, truth_bl, truth_int, truth_non, truth_lst, truth_tup, truth_frz, add_int, sub_int, neg_int, lt_int, le_int, gt_int, ge_int, isNon_w, notNon_w, is_w, isNot_w, int_w, abs_w, gcd_w, tup_w, tupt_w, list_w, listl_w, len_lst, len_tup, len_frz, un1_w, bin2_w, eq_int, ne_int, eq_pair, ne_pair, ix_lst, ix_frz, ix_tup, ix_hand, itK_v, item0, item1, item2, item3, isi_int_i, isi_int_b, isi_int_n, isi_int_s, isi_int_t, isi_int_l, isi_int_f, isi_int_h, isi_bool_i, isi_bool_b, isi_bool_n, isi_bool_s, isi_bool_t, isi_bool_l, isi_bool_f, isi_bool_h, isi_str_i, isi_str_b, isi_str_n, isi_str_s, isi_str_t, isi_str_l, isi_str_f, isi_str_h, isi_tuple_i, isi_tuple_b, isi_tuple_n, isi_tuple_s, isi_tuple_t, isi_tuple_l, isi_tuple_f, isi_tuple_h, isi_list_i, isi_list_b, isi_list_n, isi_list_s, isi_list_t, isi_list_l, isi_list_f, isi_list_h, isi_dict_i, isi_dict_b, isi_dict_n, isi_dict_s, isi_dict_t, isi_dict_l, isi_dict_f, isi_dict_h, sSeq_w, seqK_nx, seqK_rt, seqK_bk, seqK_ct, seqK_ex, onK_ok, onK_ex, sNext_w, sSet_w, sOwn_w, sFrz_w, frzK_v, sApp_w, sExpr_w, sRet_w, sRetN_w, sIf_w, ifK_t, ifK_f, sBrk_w, sCnt_w, sPar_w, parK_v, sUnp_w, unpK_2, unpK_3, unpK_4, sHSet_w, hsK_0, hsK_1, hsK_2, hsK_3, sRaise_w, sFor_w, iSeq_w, seqOf_lst, seqOf_tup, seqOf_frz, iRng_w, loopK_nx, loopK_ct, loopK_bk, loopK_rt, for0, forN, loopF_nx, loopF_ct, loopF_bk, loopF_rt, loopF_ex, sWhile_w, nLc_w, lcB_ok, lc0, lcN, lcT_t, lcT_f, lcE_v, wipeE0, wipeE1, sTry_w, tryK_nx, tryK_rt, suiteK_nx, suiteK_rt, wipe0, wipe_v, wipe_n, wipe_o, call_w, callK_nx, callK_rt, callK_ex, vals0, vals1, List.length_cons, List.length_nil, List.replicate_succ, List.replicate_zero, List.cons_append, List.nil_append, List.getElem?_cons_zero, List.getElem?_cons_succ, List.set_cons_zero, List.set_cons_succ, Nat.reduceSub, Nat.reduceAdd, Nat.zero_add, Bool.not_true, Bool.not_false, Bool.and_self, Bool.and_true, Bool.and_false])]
    simp only [bind_w, bindK_ok, bindK_ex, ret_w, fail_w, eVar_w, varK_v, eC_w, eUn_w, eBin_w, evs0_w, evs1_w, eTup_w, eLst_w, eCall_w, eIf_w, ifE_t, ifE_f, eAnd_w, andE_t, andE_f, eOr_w, orE_t, orE_f, eNot_w, eChain_w, chainM_w, eJs_w, js0, js1, chainK_t, chainK_f, eNew_w, eHand_w, handK_ok, eXf_w, tVal_w, tTru_w, tNot_w, tYes_w, tAnd_w, tOr_w, andT_t, andT_f, orT_t, orT_f, boolOf_w, truth_bl, truth_int, truth_non, truth_lst, truth_tup, truth_frz, add_int, sub_int, neg_int, lt_int, le_int, gt_int, ge_int, isNon_w, notNon_w, is_w, isNot_w, int_w, abs_w, gcd_w, tup_w, tupt_w, list_w, listl_w, len_lst, len_tup, len_frz, un1_w, bin2_w, eq_int, ne_int, eq_pair, ne_pair, ix_lst, ix_frz, ix_tup, ix_hand, itK_v, item0, item1, item2, item3, isi_int_i, isi_int_b, isi_int_n, isi_int_s, isi_int_t, isi_int_l, isi_int_f, isi_int_h, isi_bool_i, isi_bool_b, isi_bool_n, isi_bool_s, isi_bool_t, isi_bool_l, isi_bool_f, isi_bool_h, isi_str_i, isi_str_b, isi_str_n, isi_str_s, isi_str_t, isi_str_l, isi_str_f, isi_str_h, isi_tuple_i, isi_tuple_b, isi_tuple_n, isi_tuple_s, isi_tuple_t, isi_tuple_l, isi_tuple_f, isi_tuple_h, isi_list_i, isi_list_b, isi_list_n, isi_list_s, isi_list_t, isi_list_l, isi_list_f, isi_list_h, isi_dict_i, isi_dict_b, isi_dict_n, isi_dict_s, isi_dict_t, isi_dict_l, isi_dict_f, isi_dict_h, sSeq_w, seqK_nx, seqK_rt, seqK_bk, seqK_ct, seqK_ex, onK_ok, onK_ex, sNext_w, sSet_w, sOwn_w, sFrz_w, frzK_v, sApp_w, sExpr_w, sRet_w, sRetN_w, sIf_w, ifK_t, ifK_f, sBrk_w, sCnt_w, sPar_w, parK_v, sUnp_w, unpK_2, unpK_3, unpK_4, sHSet_w, hsK_0, hsK_1, hsK_2, hsK_3, sRaise_w, sFor_w, iSeq_w, seqOf_lst, seqOf_tup, seqOf_frz, iRng_w, loopK_nx, loopK_ct, loopK_bk, loopK_rt, for0, forN, loopF_nx, loopF_ct, loopF_bk, loopF_rt, loopF_ex, sWhile_w, nLc_w, lcB_ok, lc0, lcN, lcT_t, lcT_f, lcE_v, wipeE0, wipeE1, sTry_w, tryK_nx, tryK_rt, suiteK_nx, suiteK_rt, wipe0, wipe_v, wipe_n, wipe_o, call_w, callK_nx, callK_rt, callK_ex, vals0, vals1, List.length_cons, List.length_nil, List.replicate_succ, List.replicate_zero, List.cons_append, List.nil_append, List.getElem?_cons_zero, List.getElem?_cons_succ, List.set_cons_zero, List.set_cons_succ, Nat.reduceSub, Nat.reduceAdd, Nat.zero_add, Bool.not_true, Bool.not_false, Bool.and_self, Bool.and_true, Bool.and_false, ts]
theorem moment_w : F_moment_of [c (ls.map f)] w = .ok (.tup [rq (sA ls), rq (sB ls)]) w := by
  have ll := lenl (f := f) h hl
  have ta := asum (w := w) h hl
  have tb := bsum (w := w) h hl
  unfold F_moment_of
  rcases hc with rfl | rfl <;> rcases hf with rfl | rfl
  all_goals
    simp only [bind_w, bindK_ok, bindK_ex, ret_w, fail_w, eVar_w, varK_v, eC_w, eUn_w, eBin_w, evs0_w, evs1_w, eTup_w, eLst_w, eCall_w, eIf_w, ifE_t, ifE_f, eAnd_w, andE_t, andE_f, eOr_w, orE_t, orE_f, eNot_w, eChain_w, chainM_w, eJs_w, js0, js1, chainK_t, chainK_f, eNew_w, eHand_w, handK_ok, eXf_w, tVal_w, tTru_w, tNot_w, tYes_w, tAnd_w, tOr_w, andT_t, andT_f, orT_t, orT_f, boolOf_w, truth_bl, truth_int, truth_non, truth_lst, truth_tup, truth_frz, add_int, sub_int, neg_int, lt_int, le_int, gt_int, ge_int, isNon_w, notNon_w, is_w, isNot_w, int_w, abs_w, gcd_w, tup_w, tupt_w, list_w, listl_w, len_lst, len_tup, len_frz, un1_w, bin2_w, eq_int, ne_int, eq_pair, ne_pair, ix_lst, ix_frz, ix_tup, ix_hand, itK_v, item0, item1, item2, item3, isi_int_i, isi_int_b, isi_int_n, isi_int_s, isi_int_t, isi_int_l, isi_int_f, isi_int_h, isi_bool_i, isi_bool_b, isi_bool_n, isi_bool_s, isi_bool_t, isi_bool_l, isi_bool_f, isi_bool_h, isi_str_i, isi_str_b, isi_str_n, isi_str_s, isi_str_t, isi_str_l, isi_str_f, isi_str_h, isi_tuple_i, isi_tuple_b, isi_tuple_n, isi_tuple_s, isi_tuple_t, isi_tuple_l, isi_tuple_f, isi_tuple_h, isi_list_i, isi_list_b, isi_list_n, isi_list_s, isi_list_t, isi_list_l, isi_list_f, isi_list_h, isi_dict_i, isi_dict_b, isi_dict_n, isi_dict_s, isi_dict_t, isi_dict_l, isi_dict_f, isi_dict_h, sSeq_w, seqK_nx, seqK_rt, seqK_bk, seqK_ct, seqK_ex, onK_ok, onK_ex, sNext_w, sSet_w, sOwn_w, sFrz_w, frzK_v, sApp_w, sExpr_w, sRet_w, sRetN_w, sIf_w, ifK_t, ifK_f, sBrk_w, sCnt_w, sPar_w, parK_v, sUnp_w, unpK_2, unpK_3, unpK_4, sHSet_w, hsK_0, hsK_1, hsK_2, hsK_3, sRaise_w, sFor_w, iSeq_w, seqOf_lst, seqOf_tup, seqOf_frz, iRng_w, loopK_nx, loopK_ct, loopK_bk, loopK_rt, for0, forN, loopF_nx, loopF_ct, loopF_bk, loopF_rt, loopF_ex, sWhile_w, nLc_w, lcB_ok, lc0, lcN, lcT_t, lcT_f, lcE_v, wipeE0, wipeE1, sTry_w, tryK_nx, tryK_rt, suiteK_nx, suiteK_rt, wipe0, wipe_v, wipe_n, wipe_o, call_w, callK_nx, callK_rt, callK_ex, vals0, vals1, List.length_cons, List.length_nil, List.replicate_succ, List.replicate_zero, List.cons_append, List.nil_append, List.getElem?_cons_zero, List.getElem?_cons_succ, List.set_cons_zero, List.set_cons_succ, Nat.reduceSub, Nat.reduceAdd, Nat.zero_add, Bool.not_true, Bool.not_false, Bool.and_self, Bool.and_true, Bool.and_false, lcM_v _ _ _ _ ll]
    rw [lcMap (g := fun l => rq (l.w * l.a)) 3 _ ls (fun l hm => by simp only [bind_w, bindK_ok, bindK_ex, ret_w, fail_w, eVar_w, varK_v, eC_w, eUn_w, eBin_w, evs0_w, evs1_w, eTup_w, eLst_w, eCall_w, eIf_w, ifE_t, ifE_f, eAnd_w, andE_t, andE_f, eOr_w, orE_t, orE_f, eNot_w, eChain_w, chainM_w, eJs_w, js0, js1, chainK_t, chainK_f, eNew_w, eHand_w, handK_ok, eXf_w, tVal_w, tTru_w, tNot_w, tYes_w, tAnd_w, tOr_w, andT_t, andT_f, orT_t, orT_f, boolOf_w, truth_bl, truth_int, truth_non, truth_lst, truth_tup, truth_frz, add_int, sub_int, neg_int, lt_int, le_int, gt_int, ge_int, isNon_w, notNon_w, is_w, isNot_w, int_w, abs_w, gcd_w, tup_w, tupt_w, list_w, listl_w, len_lst, len_tup, len_frz, un1_w, bin2_w, eq_int, ne_int, eq_pair, ne_pair, ix_lst, ix_frz, ix_tup, ix_hand, itK_v, item0, item1, item2, item3, isi_int_i, isi_int_b, isi_int_n, isi_int_s, isi_int_t, isi_int_l, isi_int_f, isi_int_h, isi_bool_i, isi_bool_b, isi_bool_n, isi_bool_s, isi_bool_t, isi_bool_l, isi_bool_f, isi_bool_h, isi_str_i, isi_str_b, isi_str_n, isi_str_s, isi_str_t, isi_str_l, isi_str_f, isi_str_h, isi_tuple_i, isi_tuple_b, isi_tuple_n, isi_tuple_s, isi_tuple_t, isi_tuple_l, isi_tuple_f, isi_tuple_h, isi_list_i, isi_list_b, isi_list_n, isi_list_s, isi_list_t, isi_list_l, isi_list_f, isi_list_h, isi_dict_i, isi_dict_b, isi_dict_n, isi_dict_s, isi_dict_t, isi_dict_l, isi_dict_f, isi_dict_h, sSeq_w, seqK_nx, seqK_rt, seqK_bk, seqK_ct, seqK_ex, onK_ok, onK_ex, sNext_w, sSet_w, sOwn_w, sFrz_w, frzK_v, sApp_w, sExpr_w, sRet_w, sRetN_w, sIf_w, ifK_t, ifK_f, sBrk_w, sCnt_w, sPar_w, parK_v, sUnp_w, unpK_2, unpK_3, unpK_4, sHSet_w, hsK_0, hsK_1, hsK_2, hsK_3, sRaise_w, sFor_w, iSeq_w, seqOf_lst, seqOf_tup, seqOf_frz, iRng_w, loopK_nx, loopK_ct, loopK_bk, loopK_rt, for0, forN, loopF_nx, loopF_ct, loopF_bk, loopF_rt, loopF_ex, sWhile_w, nLc_w, lcB_ok, lc0, lcN, lcT_t, lcT_f, lcE_v, wipeE0, wipeE1, sTry_w, tryK_nx, tryK_rt, suiteK_nx, suiteK_rt, wipe0, wipe_v, wipe_n, wipe_o, call_w, callK_nx, callK_rt, callK_ex, vals0, vals1, List.length_cons, List.length_nil, List.replicate_succ, List.replicate_zero, List.cons_append, List.nil_append, List.getElem?_cons_zero, List.getElem?_cons_succ, List.set_cons_zero, List.set_cons_succ, Nat.reduceSub, Nat.reduceAdd, Nat.zero_add, Bool.not_true, Bool.not_false, Bool.and_self, Bool.and_true, Bool.and_false, times_q (h l hm).1 (h l hm).2.1 (ksm h hl l hm)])]
    simp only [bind_w, bindK_ok, bindK_ex, ret_w, fail_w, eVar_w, varK_v, eC_w, eUn_w, eBin_w, evs0_w, evs1_w, eTup_w, eLst_w, eCall_w, eIf_w, ifE_t, ifE_f, eAnd_w, andE_t, andE_f, eOr_w, orE_t, orE_f, eNot_w, eChain_w, chainM_w, eJs_w, js0, js1, chainK_t, chainK_f, eNew_w, eHand_w, handK_ok, eXf_w, tVal_w, tTru_w, tNot_w, tYes_w, tAnd_w, tOr_w, andT_t, andT_f, orT_t, orT_f, boolOf_w, truth_bl, truth_int, truth_non, truth_lst, truth_tup, truth_frz, add_int, sub_int, neg_int, lt_int, le_int, gt_int, ge_int, isNon_w, notNon_w, is_w, isNot_w, int_w, abs_w, gcd_w, tup_w, tupt_w, list_w, listl_w, len_lst, len_tup, len_frz, un1_w, bin2_w, eq_int, ne_int, eq_pair, ne_pair, ix_lst, ix_frz, ix_tup, ix_hand, itK_v, item0, item1, item2, item3, isi_int_i, isi_int_b, isi_int_n, isi_int_s, isi_int_t, isi_int_l, isi_int_f, isi_int_h, isi_bool_i, isi_bool_b, isi_bool_n, isi_bool_s, isi_bool_t, isi_bool_l, isi_bool_f, isi_bool_h, isi_str_i, isi_str_b, isi_str_n, isi_str_s, isi_str_t, isi_str_l, isi_str_f, isi_str_h, isi_tuple_i, isi_tuple_b, isi_tuple_n, isi_tuple_s, isi_tuple_t, isi_tuple_l, isi_tuple_f, isi_tuple_h, isi_list_i, isi_list_b, isi_list_n, isi_list_s, isi_list_t, isi_list_l, isi_list_f, isi_list_h, isi_dict_i, isi_dict_b, isi_dict_n, isi_dict_s, isi_dict_t, isi_dict_l, isi_dict_f, isi_dict_h, sSeq_w, seqK_nx, seqK_rt, seqK_bk, seqK_ct, seqK_ex, onK_ok, onK_ex, sNext_w, sSet_w, sOwn_w, sFrz_w, frzK_v, sApp_w, sExpr_w, sRet_w, sRetN_w, sIf_w, ifK_t, ifK_f, sBrk_w, sCnt_w, sPar_w, parK_v, sUnp_w, unpK_2, unpK_3, unpK_4, sHSet_w, hsK_0, hsK_1, hsK_2, hsK_3, sRaise_w, sFor_w, iSeq_w, seqOf_lst, seqOf_tup, seqOf_frz, iRng_w, loopK_nx, loopK_ct, loopK_bk, loopK_rt, for0, forN, loopF_nx, loopF_ct, loopF_bk, loopF_rt, loopF_ex, sWhile_w, nLc_w, lcB_ok, lc0, lcN, lcT_t, lcT_f, lcE_v, wipeE0, wipeE1, sTry_w, tryK_nx, tryK_rt, suiteK_nx, suiteK_rt, wipe0, wipe_v, wipe_n, wipe_o, call_w, callK_nx, callK_rt, callK_ex, vals0, vals1, List.length_cons, List.length_nil, List.replicate_succ, List.replicate_zero, List.cons_append, List.nil_append, List.getElem?_cons_zero, List.getElem?_cons_succ, List.set_cons_zero, List.set_cons_succ, Nat.reduceSub, Nat.reduceAdd, Nat.zero_add, Bool.not_true, Bool.not_false, Bool.and_self, Bool.and_true, Bool.and_false, ta, lcM_v _ _ _ _ ll]
    rw [lcMap (g := fun l => rq (l.w * l.b)) 3 _ ls (fun l hm => by simp only [bind_w, bindK_ok, bindK_ex, ret_w, fail_w, eVar_w, varK_v, eC_w, eUn_w, eBin_w, evs0_w, evs1_w, eTup_w, eLst_w, eCall_w, eIf_w, ifE_t, ifE_f, eAnd_w, andE_t, andE_f, eOr_w, orE_t, orE_f, eNot_w, eChain_w, chainM_w, eJs_w, js0, js1, chainK_t, chainK_f, eNew_w, eHand_w, handK_ok, eXf_w, tVal_w, tTru_w, tNot_w, tYes_w, tAnd_w, tOr_w, andT_t, andT_f, orT_t, orT_f, boolOf_w, truth_bl, truth_int, truth_non, truth_lst, truth_tup, truth_frz, add_int, sub_int, neg_int, lt_int, le_int, gt_int, ge_int, isNon_w, notNon_w, is_w, isNot_w, int_w, abs_w, gcd_w, tup_w, tupt_w, list_w, listl_w, len_lst, len_tup, len_frz, un1_w, bin2_w, eq_int, ne_int, eq_pair, ne_pair, ix_lst, ix_frz, ix_tup, ix_hand, itK_v, item0, item1, item2, item3, isi_int_i, isi_int_b, isi_int_n, isi_int_s, isi_int_t, isi_int_l, isi_int_f, isi_int_h, isi_bool_i, isi_bool_b, isi_bool_n, isi_bool_s, isi_bool_t, isi_bool_l, isi_bool_f, isi_bool_h, isi_str_i, isi_str_b, isi_str_n, isi_str_s, isi_str_t, isi_str_l, isi_str_f, isi_str_h, isi_tuple_i, isi_tuple_b, isi_tuple_n, isi_tuple_s, isi_tuple_t, isi_tuple_l, isi_tuple_f, isi_tuple_h, isi_list_i, isi_list_b, isi_list_n, isi_list_s, isi_list_t, isi_list_l, isi_list_f, isi_list_h, isi_dict_i, isi_dict_b, isi_dict_n, isi_dict_s, isi_dict_t, isi_dict_l, isi_dict_f, isi_dict_h, sSeq_w, seqK_nx, seqK_rt, seqK_bk, seqK_ct, seqK_ex, onK_ok, onK_ex, sNext_w, sSet_w, sOwn_w, sFrz_w, frzK_v, sApp_w, sExpr_w, sRet_w, sRetN_w, sIf_w, ifK_t, ifK_f, sBrk_w, sCnt_w, sPar_w, parK_v, sUnp_w, unpK_2, unpK_3, unpK_4, sHSet_w, hsK_0, hsK_1, hsK_2, hsK_3, sRaise_w, sFor_w, iSeq_w, seqOf_lst, seqOf_tup, seqOf_frz, iRng_w, loopK_nx, loopK_ct, loopK_bk, loopK_rt, for0, forN, loopF_nx, loopF_ct, loopF_bk, loopF_rt, loopF_ex, sWhile_w, nLc_w, lcB_ok, lc0, lcN, lcT_t, lcT_f, lcE_v, wipeE0, wipeE1, sTry_w, tryK_nx, tryK_rt, suiteK_nx, suiteK_rt, wipe0, wipe_v, wipe_n, wipe_o, call_w, callK_nx, callK_rt, callK_ex, vals0, vals1, List.length_cons, List.length_nil, List.replicate_succ, List.replicate_zero, List.cons_append, List.nil_append, List.getElem?_cons_zero, List.getElem?_cons_succ, List.set_cons_zero, List.set_cons_succ, Nat.reduceSub, Nat.reduceAdd, Nat.zero_add, Bool.not_true, Bool.not_false, Bool.and_self, Bool.and_true, Bool.and_false, times_q (h l hm).1 (h l hm).2.2 (ksm h hl l hm)])]
    simp only [bind_w, bindK_ok, bindK_ex, ret_w, fail_w, eVar_w, varK_v, eC_w, eUn_w, eBin_w, evs0_w, evs1_w, eTup_w, eLst_w, eCall_w, eIf_w, ifE_t, ifE_f, eAnd_w, andE_t, andE_f, eOr_w, orE_t, orE_f, eNot_w, eChain_w, chainM_w, eJs_w, js0, js1, chainK_t, chainK_f, eNew_w, eHand_w, handK_ok, eXf_w, tVal_w, tTru_w, tNot_w, tYes_w, tAnd_w, tOr_w, andT_t, andT_f, orT_t, orT_f, boolOf_w, truth_bl, truth_int, truth_non, truth_lst, truth_tup, truth_frz, add_int, sub_int, neg_int, lt_int, le_int, gt_int, ge_int, isNon_w, notNon_w, is_w, isNot_w, int_w, abs_w, gcd_w, tup_w, tupt_w, list_w, listl_w, len_lst, len_tup, len_frz, un1_w, bin2_w, eq_int, ne_int, eq_pair, ne_pair, ix_lst, ix_frz, ix_tup, ix_hand, itK_v, item0, item1, item2, item3, isi_int_i, isi_int_b, isi_int_n, isi_int_s, isi_int_t, isi_int_l, isi_int_f, isi_int_h, isi_bool_i, isi_bool_b, isi_bool_n, isi_bool_s, isi_bool_t, isi_bool_l, isi_bool_f, isi_bool_h, isi_str_i, isi_str_b, isi_str_n, isi_str_s, isi_str_t, isi_str_l, isi_str_f, isi_str_h, isi_tuple_i, isi_tuple_b, isi_tuple_n, isi_tuple_s, isi_tuple_t, isi_tuple_l, isi_tuple_f, isi_tuple_h, isi_list_i, isi_list_b, isi_list_n, isi_list_s, isi_list_t, isi_list_l, isi_list_f, isi_list_h, isi_dict_i, isi_dict_b, isi_dict_n, isi_dict_s, isi_dict_t, isi_dict_l, isi_dict_f, isi_dict_h, sSeq_w, seqK_nx, seqK_rt, seqK_bk, seqK_ct, seqK_ex, onK_ok, onK_ex, sNext_w, sSet_w, sOwn_w, sFrz_w, frzK_v, sApp_w, sExpr_w, sRet_w, sRetN_w, sIf_w, ifK_t, ifK_f, sBrk_w, sCnt_w, sPar_w, parK_v, sUnp_w, unpK_2, unpK_3, unpK_4, sHSet_w, hsK_0, hsK_1, hsK_2, hsK_3, sRaise_w, sFor_w, iSeq_w, seqOf_lst, seqOf_tup, seqOf_frz, iRng_w, loopK_nx, loopK_ct, loopK_bk, loopK_rt, for0, forN, loopF_nx, loopF_ct, loopF_bk, loopF_rt, loopF_ex, sWhile_w, nLc_w, lcB_ok, lc0, lcN, lcT_t, lcT_f, lcE_v, wipeE0, wipeE1, sTry_w, tryK_nx, tryK_rt, suiteK_nx, suiteK_rt, wipe0, wipe_v, wipe_n, wipe_o, call_w, callK_nx, callK_rt, callK_ex, vals0, vals1, List.length_cons, List.length_nil, List.replicate_succ, List.replicate_zero, List.cons_append, List.nil_append, List.getElem?_cons_zero, List.getElem?_cons_succ, List.set_cons_zero, List.set_cons_succ, Nat.reduceSub, Nat.reduceAdd, Nat.zero_add, Bool.not_true, Bool.not_false, Bool.and_self, Bool.and_true, Bool.and_false, tb]
/-! the centre -/
theorem centre_0 (h0 : sW ls = 0) : F_centre_of [c (ls.map f)] w = .ex 3 ["many"] [.int (ls.length : Int)] w := by
  have tw := fun w => total_w (w := w) hf hc h hl
  have q0 : ((sW ls).num == 0 && ((sW ls).den : Int) == 1) = true := by rw [h0]; rfl
  unfold F_centre_of
  rcases hc with rfl | rfl
  · simp only [bind_w, bindK_ok, bindK_ex, ret_w, fail_w, eVar_w, varK_v, eC_w, eUn_w, eBin_w, evs0_w, evs1_w, eTup_w, eLst_w, eCall_w, eIf_w, ifE_t, ifE_f, eAnd_w, andE_t, andE_f, eOr_w, orE_t, orE_f, eNot_w, eChain_w, chainM_w, eJs_w, js0, js1, chainK_t, chainK_f, eNew_w, eHand_w, handK_ok, eXf_w, tVal_w, tTru_w, tNot_w, tYes_w, tAnd_w, tOr_w, andT_t, andT_f, orT_t, orT_f, boolOf_w, truth_bl, truth_int, truth_non, truth_lst, truth_tup, truth_frz, add_int, sub_int, neg_int, lt_int, le_int, gt_int, ge_int, isNon_w, notNon_w, is_w, isNot_w, int_w, abs_w, gcd_w, tup_w, tupt_w, list_w, listl_w, len_lst, len_tup, len_frz, un1_w, bin2_w, eq_int, ne_int, eq_pair, ne_pair, ix_lst, ix_frz, ix_tup, ix_hand, itK_v, item0, item1, item2, item3, isi_int_i, isi_int_b, isi_int_n, isi_int_s, isi_int_t, isi_int_l, isi_int_f, isi_int_h, isi_bool_i, isi_bool_b, isi_bool_n, isi_bool_s, isi_bool_t, isi_bool_l, isi_bool_f, isi_bool_h, isi_str_i, isi_str_b, isi_str_n, isi_str_s, isi_str_t, isi_str_l, isi_str_f, isi_str_h, isi_tuple_i, isi_tuple_b, isi_tuple_n, isi_tuple_s, isi_tuple_t, isi_tuple_l, isi_tuple_f, isi_tuple_h, isi_list_i, isi_list_b, isi_list_n, isi_list_s, isi_list_t, isi_list_l, isi_list_f, isi_list_h, isi_dict_i, isi_dict_b, isi_dict_n, isi_dict_s, isi_dict_t, isi_dict_l, isi_dict_f, isi_dict_h, sSeq_w, seqK_nx, seqK_rt, seqK_bk, seqK_ct, seqK_ex, onK_ok, onK_ex, sNext_w, sSet_w, sOwn_w, sFrz_w, frzK_v, sApp_w, sExpr_w, sRet_w, sRetN_w, sIf_w, ifK_t, ifK_f, sBrk_w, sCnt_w, sPar_w, parK_v, sUnp_w, unpK_2, unpK_3, unpK_4, sHSet_w, hsK_0, hsK_1, hsK_2, hsK_3, sRaise_w, sFor_w, iSeq_w, seqOf_lst, seqOf_tup, seqOf_frz, iRng_w, loopK_nx, loopK_ct, loopK_bk, loopK_rt, for0, forN, loopF_nx, loopF_ct, loopF_bk, loopF_rt, loopF_ex, sWhile_w, nLc_w, lcB_ok, lc0, lcN, lcT_t, lcT_f, lcE_v, wipeE0, wipeE1, sTry_w, tryK_nx, tryK_rt, suiteK_nx, suiteK_rt, wipe0, wipe_v, wipe_n, wipe_o, call_w, callK_nx, callK_rt, callK_ex, vals0, vals1, List.length_cons, List.length_nil, List.replicate_succ, List.replicate_zero, List.cons_append, List.nil_append, List.getElem?_cons_zero, List.getElem?_cons_succ, List.set_cons_zero, List.set_cons_succ, Nat.reduceSub, Nat.reduceAdd, Nat.zero_add, Bool.not_true, Bool.not_false, Bool.and_self, Bool.and_true, Bool.and_false, tw, q0, List.length_map]
  · simp only [bind_w, bindK_ok, bindK_ex, ret_w, fail_w, eVar_w, varK_v, eC_w, eUn_w, eBin_w, evs0_w, evs1_w, eTup_w, eLst_w, eCall_w, eIf_w, ifE_t, ifE_f, eAnd_w, andE_t, andE_f, eOr_w, orE_t, orE_f, eNot_w, eChain_w, chainM_w, eJs_w, js0, js1, chainK_t, chainK_f, eNew_w, eHand_w, handK_ok, eXf_w, tVal_w, tTru_w, tNot_w, tYes_w, tAnd_w, tOr_w, andT_t, andT_f, orT_t, orT_f, boolOf_w, truth_bl, truth_int, truth_non, truth_lst, truth_tup, truth_frz, add_int, sub_int, neg_int, lt_int, le_int, gt_int, ge_int, isNon_w, notNon_w, is_w, isNot_w, int_w, abs_w, gcd_w, tup_w, tupt_w, list_w, listl_w, len_lst, len_tup, len_frz, un1_w, bin2_w, eq_int, ne_int, eq_pair, ne_pair, ix_lst, ix_frz, ix_tup, ix_hand, itK_v, item0, item1, item2, item3, isi_int_i, isi_int_b, isi_int_n, isi_int_s, isi_int_t, isi_int_l, isi_int_f, isi_int_h, isi_bool_i, isi_bool_b, isi_bool_n, isi_bool_s, isi_bool_t, isi_bool_l, isi_bool_f, isi_bool_h, isi_str_i, isi_str_b, isi_str_n, isi_str_s, isi_str_t, isi_str_l, isi_str_f, isi_str_h, isi_tuple_i, isi_tuple_b, isi_tuple_n, isi_tuple_s, isi_tuple_t, isi_tuple_l, isi_tuple_f, isi_tuple_h, isi_list_i, isi_list_b, isi_list_n, isi_list_s, isi_list_t, isi_list_l, isi_list_f, isi_list_h, isi_dict_i, isi_dict_b, isi_dict_n, isi_dict_s, isi_dict_t, isi_dict_l, isi_dict_f, isi_dict_h, sSeq_w, seqK_nx, seqK_rt, seqK_bk, seqK_ct, seqK_ex, onK_ok, onK_ex, sNext_w, sSet_w, sOwn_w, sFrz_w, frzK_v, sApp_w, sExpr_w, sRet_w, sRetN_w, sIf_w, ifK_t, ifK_f, sBrk_w, sCnt_w, sPar_w, parK_v, sUnp_w, unpK_2, unpK_3, unpK_4, sHSet_w, hsK_0, hsK_1, hsK_2, hsK_3, sRaise_w, sFor_w, iSeq_w, seqOf_lst, seqOf_tup, seqOf_frz, iRng_w, loopK_nx, loopK_ct, loopK_bk, loopK_rt, for0, forN, loopF_nx, loopF_ct, loopF_bk, loopF_rt, loopF_ex, sWhile_w, nLc_w, lcB_ok, lc0, lcN, lcT_t, lcT_f, lcE_v, wipeE0, wipeE1, sTry_w, tryK_nx, tryK_rt, suiteK_nx, suiteK_rt, wipe0, wipe_v, wipe_n, wipe_o, call_w, callK_nx, callK_rt, callK_ex, vals0, vals1, List.length_cons, List.length_nil, List.replicate_succ, List.replicate_zero, List.cons_append, List.nil_append, List.getElem?_cons_zero, List.getElem?_cons_succ, List.set_cons_zero, List.set_cons_succ, Nat.reduceSub, Nat.reduceAdd, Nat.zero_add, Bool.not_true, Bool.not_false, Bool.and_self, Bool.and_true, Bool.and_false, tw, q0, List.length_map]
theorem centre_w (h0 : sW ls ≠ 0) : F_centre_of [c (ls.map f)] w = .ok (.tup [rq (sA ls / sW ls), rq (sB ls / sW ls)]) w := by
  have tw := fun w => total_w (w := w) hf hc h hl
  have mw := fun w => moment_w (w := w) hf hc h hl
  have q0 : ((sW ls).num == 0 && ((sW ls).den : Int) == 1) = false := by
    have := q_beq (sW ls) 0
    rw [decide_eq_false h0] at this
    exact this
  have b : 1 + ls.length * (k + k + 1) + (1 + ls.length * (k + 1)) < 9000 := by
    have : ls.length * (k + 1) ≤ ls.length * (k + k + 1) := Nat.mul_le_mul_left _ (by omega)
    omega
  have zw := szW h hl
  have za := szA h hl
  have zb := szB h hl
  unfold F_centre_of
  rcases hc with rfl | rfl
  · simp only [bind_w, bindK_ok, bindK_ex, ret_w, fail_w, eVar_w, varK_v, eC_w, eUn_w, eBin_w, evs0_w, evs1_w, eTup_w, eLst_w, eCall_w, eIf_w, ifE_t, ifE_f, eAnd_w, andE_t, andE_f, eOr_w, orE_t, orE_f, eNot_w, eChain_w, chainM_w, eJs_w, js0, js1, chainK_t, chainK_f, eNew_w, eHand_w, handK_ok, eXf_w, tVal_w, tTru_w, tNot_w, tYes_w, tAnd_w, tOr_w, andT_t, andT_f, orT_t, orT_f, boolOf_w, truth_bl, truth_int, truth_non, truth_lst, truth_tup, truth_frz, add_int, sub_int, neg_int, lt_int, le_int, gt_int, ge_int, isNon_w, notNon_w, is_w, isNot_w, int_w, abs_w, gcd_w, tup_w, tupt_w, list_w, listl_w, len_lst, len_tup, len_frz, un1_w, bin2_w, eq_int, ne_int, eq_pair, ne_pair, ix_lst, ix_frz, ix_tup, ix_hand, itK_v, item0, item1, item2, item3, isi_int_i, isi_int_b, isi_int_n, isi_int_s, isi_int_t, isi_int_l, isi_int_f, isi_int_h, isi_bool_i, isi_bool_b, isi_bool_n, isi_bool_s, isi_bool_t, isi_bool_l, isi_bool_f, isi_bool_h, isi_str_i, isi_str_b, isi_str_n, isi_str_s, isi_str_t, isi_str_l, isi_str_f, isi_str_h, isi_tuple_i, isi_tuple_b, isi_tuple_n, isi_tuple_s, isi_tuple_t, isi_tuple_l, isi_tuple_f, isi_tuple_h, isi_list_i, isi_list_b, isi_list_n, isi_list_s, isi_list_t, isi_list_l, isi_list_f, isi_list_h, isi_dict_i, isi_dict_b, isi_dict_n, isi_dict_s, isi_dict_t, isi_dict_l, isi_dict_f, isi_dict_h, sSeq_w, seqK_nx, seqK_rt, seqK_bk, seqK_ct, seqK_ex, onK_ok, onK_ex, sNext_w, sSet_w, sOwn_w, sFrz_w, frzK_v, sApp_w, sExpr_w, sRet_w, sRetN_w, sIf_w, ifK_t, ifK_f, sBrk_w, sCnt_w, sPar_w, parK_v, sUnp_w, unpK_2, unpK_3, unpK_4, sHSet_w, hsK_0, hsK_1, hsK_2, hsK_3, sRaise_w, sFor_w, iSeq_w, seqOf_lst, seqOf_tup, seqOf_frz, iRng_w, loopK_nx, loopK_ct, loopK_bk, loopK_rt, for0, forN, loopF_nx, loopF_ct, loopF_bk, loopF_rt, loopF_ex, sWhile_w, nLc_w, lcB_ok, lc0, lcN, lcT_t, lcT_f, lcE_v, wipeE0, wipeE1, sTry_w, tryK_nx, tryK_rt, suiteK_nx, suiteK_rt, wipe0, wipe_v, wipe_n, wipe_o, call_w, callK_nx, callK_rt, callK_ex, vals0, vals1, List.length_cons, List.length_nil, List.replicate_succ, List.replicate_zero, List.cons_append, List.nil_append, List.getElem?_cons_zero, List.getElem?_cons_succ, List.set_cons_zero, List.set_cons_succ, Nat.reduceSub, Nat.reduceAdd, Nat.zero_add, Bool.not_true, Bool.not_false, Bool.and_self, Bool.and_true, Bool.and_false, tw, q0, mw, over_q za zw h0 b, over_q zb zw h0 b]
  · simp only [bind_w, bindK_ok, bindK_ex, ret_w, fail_w, eVar_w, varK_v, eC_w, eUn_w, eBin_w, evs0_w, evs1_w, eTup_w, eLst_w, eCall_w, eIf_w, ifE_t, ifE_f, eAnd_w, andE_t, andE_f, eOr_w, orE_t, orE_f, eNot_w, eChain_w, chainM_w, eJs_w, js0, js1, chainK_t, chainK_f, eNew_w, eHand_w, handK_ok, eXf_w, tVal_w, tTru_w, tNot_w, tYes_w, tAnd_w, tOr_w, andT_t, andT_f, orT_t, orT_f, boolOf_w, truth_bl, truth_int, truth_non, truth_lst, truth_tup, truth_frz, add_int, sub_int, neg_int, lt_int, le_int, gt_int, ge_int, isNon_w, notNon_w, is_w, isNot_w, int_w, abs_w, gcd_w, tup_w, tupt_w, list_w, listl_w, len_lst, len_tup, len_frz, un1_w, bin2_w, eq_int, ne_int, eq_pair, ne_pair, ix_lst, ix_frz, ix_tup, ix_hand, itK_v, item0, item1, item2, item3, isi_int_i, isi_int_b, isi_int_n, isi_int_s, isi_int_t, isi_int_l, isi_int_f, isi_int_h, isi_bool_i, isi_bool_b, isi_bool_n, isi_bool_s, isi_bool_t, isi_bool_l, isi_bool_f, isi_bool_h, isi_str_i, isi_str_b, isi_str_n, isi_str_s, isi_str_t, isi_str_l, isi_str_f, isi_str_h, isi_tuple_i, isi_tuple_b, isi_tuple_n, isi_tuple_s, isi_tuple_t, isi_tuple_l, isi_tuple_f, isi_tuple_h, isi_list_i, isi_list_b, isi_list_n, isi_list_s, isi_list_t, isi_list_l, isi_list_f, isi_list_h, isi_dict_i, isi_dict_b, isi_dict_n, isi_dict_s, isi_dict_t, isi_dict_l, isi_dict_f, isi_dict_h, sSeq_w, seqK_nx, seqK_rt, seqK_bk, seqK_ct, seqK_ex, onK_ok, onK_ex, sNext_w, sSet_w, sOwn_w, sFrz_w, frzK_v, sApp_w, sExpr_w, sRet_w, sRetN_w, sIf_w, ifK_t, ifK_f, sBrk_w, sCnt_w, sPar_w, parK_v, sUnp_w, unpK_2, unpK_3, unpK_4, sHSet_w, hsK_0, hsK_1, hsK_2, hsK_3, sRaise_w, sFor_w, iSeq_w, seqOf_lst, seqOf_tup, seqOf_frz, iRng_w, loopK_nx, loopK_ct, loopK_bk, loopK_rt, for0, forN, loopF_nx, loopF_ct, loopF_bk, loopF_rt, loopF_ex, sWhile_w, nLc_w, lcB_ok, lc0, lcN, lcT_t, lcT_f, lcE_v, wipeE0, wipeE1, sTry_w, tryK_nx, tryK_rt, suiteK_nx, suiteK_rt, wipe0, wipe_v, wipe_n, wipe_o, call_w, callK_nx, callK_rt, callK_ex, vals0, vals1, List.length_cons, List.length_nil, List.replicate_succ, List.replicate_zero, List.cons_append, List.nil_append, List.getElem?_cons_zero, List.getElem?_cons_succ, List.set_cons_zero, List.set_cons_succ, Nat.reduceSub, Nat.reduceAdd, Nat.zero_add, Bool.not_true, Bool.not_false, Bool.and_self, Bool.and_true, Bool.and_false, tw, q0, mw, over_q za zw h0 b, over_q zb zw h0 b]
theorem middle_0 (h0 : sW ls = 0) : F__law_middle [c (ls.map f)] w = .ok (.lst [.str "none", .int (ls.length : Int)]) w := by
  have m : (3 : Nat) ∈ [3] := by simp
  have x : ∀ w : Wd, xfK (some (.exc 3 ["many"] [.int (ls.length : Int)])) "many" w = .ok (.int (ls.length : Int)) w := fun w => xfK_v 3 _ _ _ rfl
  have e := fun w => centre_0 (w := w) hf hc h hl h0
  unfold F__law_middle
  simp only [bind_w, bindK_ok, bindK_ex, ret_w, fail_w, eVar_w, varK_v, eC_w, eUn_w, eBin_w, evs0_w, evs1_w, eTup_w, eLst_w, eCall_w, eIf_w, ifE_t, ifE_f, eAnd_w, andE_t, andE_f, eOr_w, orE_t, orE_f, eNot_w, eChain_w, chainM_w, eJs_w, js0, js1, chainK_t, chainK_f, eNew_w, eHand_w, handK_ok, eXf_w, tVal_w, tTru_w, tNot_w, tYes_w, tAnd_w, tOr_w, andT_t, andT_f, orT_t, orT_f, boolOf_w, truth_bl, truth_int, truth_non, truth_lst, truth_tup, truth_frz, add_int, sub_int, neg_int, lt_int, le_int, gt_int, ge_int, isNon_w, notNon_w, is_w, isNot_w, int_w, abs_w, gcd_w, tup_w, tupt_w, list_w, listl_w, len_lst, len_tup, len_frz, un1_w, bin2_w, eq_int, ne_int, eq_pair, ne_pair, ix_lst, ix_frz, ix_tup, ix_hand, itK_v, item0, item1, item2, item3, isi_int_i, isi_int_b, isi_int_n, isi_int_s, isi_int_t, isi_int_l, isi_int_f, isi_int_h, isi_bool_i, isi_bool_b, isi_bool_n, isi_bool_s, isi_bool_t, isi_bool_l, isi_bool_f, isi_bool_h, isi_str_i, isi_str_b, isi_str_n, isi_str_s, isi_str_t, isi_str_l, isi_str_f, isi_str_h, isi_tuple_i, isi_tuple_b, isi_tuple_n, isi_tuple_s, isi_tuple_t, isi_tuple_l, isi_tuple_f, isi_tuple_h, isi_list_i, isi_list_b, isi_list_n, isi_list_s, isi_list_t, isi_list_l, isi_list_f, isi_list_h, isi_dict_i, isi_dict_b, isi_dict_n, isi_dict_s, isi_dict_t, isi_dict_l, isi_dict_f, isi_dict_h, sSeq_w, seqK_nx, seqK_rt, seqK_bk, seqK_ct, seqK_ex, onK_ok, onK_ex, sNext_w, sSet_w, sOwn_w, sFrz_w, frzK_v, sApp_w, sExpr_w, sRet_w, sRetN_w, sIf_w, ifK_t, ifK_f, sBrk_w, sCnt_w, sPar_w, parK_v, sUnp_w, unpK_2, unpK_3, unpK_4, sHSet_w, hsK_0, hsK_1, hsK_2, hsK_3, sRaise_w, sFor_w, iSeq_w, seqOf_lst, seqOf_tup, seqOf_frz, iRng_w, loopK_nx, loopK_ct, loopK_bk, loopK_rt, for0, forN, loopF_nx, loopF_ct, loopF_bk, loopF_rt, loopF_ex, sWhile_w, nLc_w, lcB_ok, lc0, lcN, lcT_t, lcT_f, lcE_v, wipeE0, wipeE1, sTry_w, tryK_nx, tryK_rt, suiteK_nx, suiteK_rt, wipe0, wipe_v, wipe_n, wipe_o, call_w, callK_nx, callK_rt, callK_ex, vals0, vals1, List.length_cons, List.length_nil, List.replicate_succ, List.replicate_zero, List.cons_append, List.nil_append, List.getElem?_cons_zero, List.getElem?_cons_succ, List.set_cons_zero, List.set_cons_succ, Nat.reduceSub, Nat.reduceAdd, Nat.zero_add, Bool.not_true, Bool.not_false, Bool.and_self, Bool.and_true, Bool.and_false, e, tryK_ex _ _ _ _ _ m, x]
theorem middle_w (h0 : sW ls ≠ 0) : F__law_middle [c (ls.map f)] w = .ok (.tup [rq (sA ls / sW ls), rq (sB ls / sW ls)]) w := by
  have e := fun w => centre_w (w := w) hf hc h hl h0
  unfold F__law_middle
  simp only [bind_w, bindK_ok, bindK_ex, ret_w, fail_w, eVar_w, varK_v, eC_w, eUn_w, eBin_w, evs0_w, evs1_w, eTup_w, eLst_w, eCall_w, eIf_w, ifE_t, ifE_f, eAnd_w, andE_t, andE_f, eOr_w, orE_t, orE_f, eNot_w, eChain_w, chainM_w, eJs_w, js0, js1, chainK_t, chainK_f, eNew_w, eHand_w, handK_ok, eXf_w, tVal_w, tTru_w, tNot_w, tYes_w, tAnd_w, tOr_w, andT_t, andT_f, orT_t, orT_f, boolOf_w, truth_bl, truth_int, truth_non, truth_lst, truth_tup, truth_frz, add_int, sub_int, neg_int, lt_int, le_int, gt_int, ge_int, isNon_w, notNon_w, is_w, isNot_w, int_w, abs_w, gcd_w, tup_w, tupt_w, list_w, listl_w, len_lst, len_tup, len_frz, un1_w, bin2_w, eq_int, ne_int, eq_pair, ne_pair, ix_lst, ix_frz, ix_tup, ix_hand, itK_v, item0, item1, item2, item3, isi_int_i, isi_int_b, isi_int_n, isi_int_s, isi_int_t, isi_int_l, isi_int_f, isi_int_h, isi_bool_i, isi_bool_b, isi_bool_n, isi_bool_s, isi_bool_t, isi_bool_l, isi_bool_f, isi_bool_h, isi_str_i, isi_str_b, isi_str_n, isi_str_s, isi_str_t, isi_str_l, isi_str_f, isi_str_h, isi_tuple_i, isi_tuple_b, isi_tuple_n, isi_tuple_s, isi_tuple_t, isi_tuple_l, isi_tuple_f, isi_tuple_h, isi_list_i, isi_list_b, isi_list_n, isi_list_s, isi_list_t, isi_list_l, isi_list_f, isi_list_h, isi_dict_i, isi_dict_b, isi_dict_n, isi_dict_s, isi_dict_t, isi_dict_l, isi_dict_f, isi_dict_h, sSeq_w, seqK_nx, seqK_rt, seqK_bk, seqK_ct, seqK_ex, onK_ok, onK_ex, sNext_w, sSet_w, sOwn_w, sFrz_w, frzK_v, sApp_w, sExpr_w, sRet_w, sRetN_w, sIf_w, ifK_t, ifK_f, sBrk_w, sCnt_w, sPar_w, parK_v, sUnp_w, unpK_2, unpK_3, unpK_4, sHSet_w, hsK_0, hsK_1, hsK_2, hsK_3, sRaise_w, sFor_w, iSeq_w, seqOf_lst, seqOf_tup, seqOf_frz, iRng_w, loopK_nx, loopK_ct, loopK_bk, loopK_rt, for0, forN, loopF_nx, loopF_ct, loopF_bk, loopF_rt, loopF_ex, sWhile_w, nLc_w, lcB_ok, lc0, lcN, lcT_t, lcT_f, lcE_v, wipeE0, wipeE1, sTry_w, tryK_nx, tryK_rt, suiteK_nx, suiteK_rt, wipe0, wipe_v, wipe_n, wipe_o, call_w, callK_nx, callK_rt, callK_ex, vals0, vals1, List.length_cons, List.length_nil, List.replicate_succ, List.replicate_zero, List.cons_append, List.nil_append, List.getElem?_cons_zero, List.getElem?_cons_succ, List.set_cons_zero, List.set_cons_succ, Nat.reduceSub, Nat.reduceAdd, Nat.zero_add, Bool.not_true, Bool.not_false, Bool.and_self, Bool.and_true, Bool.and_false, e]
theorem one_w (h0 : sW ls ≠ 0) : F_one_load [c (ls.map f)] w = .ok (.tup [ld ⟨sW ls, sA ls / sW ls, sB ls / sW ls⟩]) w := by
  have e := fun w => centre_w (w := w) hf hc h hl h0
  have tw := fun w => total_w (w := w) hf hc h hl
  unfold F_one_load
  simp only [bind_w, bindK_ok, bindK_ex, ret_w, fail_w, eVar_w, varK_v, eC_w, eUn_w, eBin_w, evs0_w, evs1_w, eTup_w, eLst_w, eCall_w, eIf_w, ifE_t, ifE_f, eAnd_w, andE_t, andE_f, eOr_w, orE_t, orE_f, eNot_w, eChain_w, chainM_w, eJs_w, js0, js1, chainK_t, chainK_f, eNew_w, eHand_w, handK_ok, eXf_w, tVal_w, tTru_w, tNot_w, tYes_w, tAnd_w, tOr_w, andT_t, andT_f, orT_t, orT_f, boolOf_w, truth_bl, truth_int, truth_non, truth_lst, truth_tup, truth_frz, add_int, sub_int, neg_int, lt_int, le_int, gt_int, ge_int, isNon_w, notNon_w, is_w, isNot_w, int_w, abs_w, gcd_w, tup_w, tupt_w, list_w, listl_w, len_lst, len_tup, len_frz, un1_w, bin2_w, eq_int, ne_int, eq_pair, ne_pair, ix_lst, ix_frz, ix_tup, ix_hand, itK_v, item0, item1, item2, item3, isi_int_i, isi_int_b, isi_int_n, isi_int_s, isi_int_t, isi_int_l, isi_int_f, isi_int_h, isi_bool_i, isi_bool_b, isi_bool_n, isi_bool_s, isi_bool_t, isi_bool_l, isi_bool_f, isi_bool_h, isi_str_i, isi_str_b, isi_str_n, isi_str_s, isi_str_t, isi_str_l, isi_str_f, isi_str_h, isi_tuple_i, isi_tuple_b, isi_tuple_n, isi_tuple_s, isi_tuple_t, isi_tuple_l, isi_tuple_f, isi_tuple_h, isi_list_i, isi_list_b, isi_list_n, isi_list_s, isi_list_t, isi_list_l, isi_list_f, isi_list_h, isi_dict_i, isi_dict_b, isi_dict_n, isi_dict_s, isi_dict_t, isi_dict_l, isi_dict_f, isi_dict_h, sSeq_w, seqK_nx, seqK_rt, seqK_bk, seqK_ct, seqK_ex, onK_ok, onK_ex, sNext_w, sSet_w, sOwn_w, sFrz_w, frzK_v, sApp_w, sExpr_w, sRet_w, sRetN_w, sIf_w, ifK_t, ifK_f, sBrk_w, sCnt_w, sPar_w, parK_v, sUnp_w, unpK_2, unpK_3, unpK_4, sHSet_w, hsK_0, hsK_1, hsK_2, hsK_3, sRaise_w, sFor_w, iSeq_w, seqOf_lst, seqOf_tup, seqOf_frz, iRng_w, loopK_nx, loopK_ct, loopK_bk, loopK_rt, for0, forN, loopF_nx, loopF_ct, loopF_bk, loopF_rt, loopF_ex, sWhile_w, nLc_w, lcB_ok, lc0, lcN, lcT_t, lcT_f, lcE_v, wipeE0, wipeE1, sTry_w, tryK_nx, tryK_rt, suiteK_nx, suiteK_rt, wipe0, wipe_v, wipe_n, wipe_o, call_w, callK_nx, callK_rt, callK_ex, vals0, vals1, List.length_cons, List.length_nil, List.replicate_succ, List.replicate_zero, List.cons_append, List.nil_append, List.getElem?_cons_zero, List.getElem?_cons_succ, List.set_cons_zero, List.set_cons_succ, Nat.reduceSub, Nat.reduceAdd, Nat.zero_add, Bool.not_true, Bool.not_false, Bool.and_self, Bool.and_true, Bool.and_false, e, tw]
theorem tog_0 (h0 : sW ls = 0) : F__law_together [c (ls.map f)] w = .ok (.lst [.str "none", .int (ls.length : Int)]) w := by
  have m : (3 : Nat) ∈ [3] := by simp
  have x : ∀ w : Wd, xfK (some (.exc 3 ["many"] [.int (ls.length : Int)])) "many" w = .ok (.int (ls.length : Int)) w := fun w => xfK_v 3 _ _ _ rfl
  have e := fun w => centre_0 (w := w) hf hc h hl h0
  unfold F__law_together F_one_load
  simp only [bind_w, bindK_ok, bindK_ex, ret_w, fail_w, eVar_w, varK_v, eC_w, eUn_w, eBin_w, evs0_w, evs1_w, eTup_w, eLst_w, eCall_w, eIf_w, ifE_t, ifE_f, eAnd_w, andE_t, andE_f, eOr_w, orE_t, orE_f, eNot_w, eChain_w, chainM_w, eJs_w, js0, js1, chainK_t, chainK_f, eNew_w, eHand_w, handK_ok, eXf_w, tVal_w, tTru_w, tNot_w, tYes_w, tAnd_w, tOr_w, andT_t, andT_f, orT_t, orT_f, boolOf_w, truth_bl, truth_int, truth_non, truth_lst, truth_tup, truth_frz, add_int, sub_int, neg_int, lt_int, le_int, gt_int, ge_int, isNon_w, notNon_w, is_w, isNot_w, int_w, abs_w, gcd_w, tup_w, tupt_w, list_w, listl_w, len_lst, len_tup, len_frz, un1_w, bin2_w, eq_int, ne_int, eq_pair, ne_pair, ix_lst, ix_frz, ix_tup, ix_hand, itK_v, item0, item1, item2, item3, isi_int_i, isi_int_b, isi_int_n, isi_int_s, isi_int_t, isi_int_l, isi_int_f, isi_int_h, isi_bool_i, isi_bool_b, isi_bool_n, isi_bool_s, isi_bool_t, isi_bool_l, isi_bool_f, isi_bool_h, isi_str_i, isi_str_b, isi_str_n, isi_str_s, isi_str_t, isi_str_l, isi_str_f, isi_str_h, isi_tuple_i, isi_tuple_b, isi_tuple_n, isi_tuple_s, isi_tuple_t, isi_tuple_l, isi_tuple_f, isi_tuple_h, isi_list_i, isi_list_b, isi_list_n, isi_list_s, isi_list_t, isi_list_l, isi_list_f, isi_list_h, isi_dict_i, isi_dict_b, isi_dict_n, isi_dict_s, isi_dict_t, isi_dict_l, isi_dict_f, isi_dict_h, sSeq_w, seqK_nx, seqK_rt, seqK_bk, seqK_ct, seqK_ex, onK_ok, onK_ex, sNext_w, sSet_w, sOwn_w, sFrz_w, frzK_v, sApp_w, sExpr_w, sRet_w, sRetN_w, sIf_w, ifK_t, ifK_f, sBrk_w, sCnt_w, sPar_w, parK_v, sUnp_w, unpK_2, unpK_3, unpK_4, sHSet_w, hsK_0, hsK_1, hsK_2, hsK_3, sRaise_w, sFor_w, iSeq_w, seqOf_lst, seqOf_tup, seqOf_frz, iRng_w, loopK_nx, loopK_ct, loopK_bk, loopK_rt, for0, forN, loopF_nx, loopF_ct, loopF_bk, loopF_rt, loopF_ex, sWhile_w, nLc_w, lcB_ok, lc0, lcN, lcT_t, lcT_f, lcE_v, wipeE0, wipeE1, sTry_w, tryK_nx, tryK_rt, suiteK_nx, suiteK_rt, wipe0, wipe_v, wipe_n, wipe_o, call_w, callK_nx, callK_rt, callK_ex, vals0, vals1, List.length_cons, List.length_nil, List.replicate_succ, List.replicate_zero, List.cons_append, List.nil_append, List.getElem?_cons_zero, List.getElem?_cons_succ, List.set_cons_zero, List.set_cons_succ, Nat.reduceSub, Nat.reduceAdd, Nat.zero_add, Bool.not_true, Bool.not_false, Bool.and_self, Bool.and_true, Bool.and_false, e, tryK_ex _ _ _ _ _ m, x]
theorem tog_w (h0 : sW ls ≠ 0) : F__law_together [c (ls.map f)] w = .ok (.tup [ld ⟨sW ls, sA ls / sW ls, sB ls / sW ls⟩]) w := by
  have e := fun w => one_w (w := w) hf hc h hl h0
  unfold F__law_together
  simp only [bind_w, bindK_ok, bindK_ex, ret_w, fail_w, eVar_w, varK_v, eC_w, eUn_w, eBin_w, evs0_w, evs1_w, eTup_w, eLst_w, eCall_w, eIf_w, ifE_t, ifE_f, eAnd_w, andE_t, andE_f, eOr_w, orE_t, orE_f, eNot_w, eChain_w, chainM_w, eJs_w, js0, js1, chainK_t, chainK_f, eNew_w, eHand_w, handK_ok, eXf_w, tVal_w, tTru_w, tNot_w, tYes_w, tAnd_w, tOr_w, andT_t, andT_f, orT_t, orT_f, boolOf_w, truth_bl, truth_int, truth_non, truth_lst, truth_tup, truth_frz, add_int, sub_int, neg_int, lt_int, le_int, gt_int, ge_int, isNon_w, notNon_w, is_w, isNot_w, int_w, abs_w, gcd_w, tup_w, tupt_w, list_w, listl_w, len_lst, len_tup, len_frz, un1_w, bin2_w, eq_int, ne_int, eq_pair, ne_pair, ix_lst, ix_frz, ix_tup, ix_hand, itK_v, item0, item1, item2, item3, isi_int_i, isi_int_b, isi_int_n, isi_int_s, isi_int_t, isi_int_l, isi_int_f, isi_int_h, isi_bool_i, isi_bool_b, isi_bool_n, isi_bool_s, isi_bool_t, isi_bool_l, isi_bool_f, isi_bool_h, isi_str_i, isi_str_b, isi_str_n, isi_str_s, isi_str_t, isi_str_l, isi_str_f, isi_str_h, isi_tuple_i, isi_tuple_b, isi_tuple_n, isi_tuple_s, isi_tuple_t, isi_tuple_l, isi_tuple_f, isi_tuple_h, isi_list_i, isi_list_b, isi_list_n, isi_list_s, isi_list_t, isi_list_l, isi_list_f, isi_list_h, isi_dict_i, isi_dict_b, isi_dict_n, isi_dict_s, isi_dict_t, isi_dict_l, isi_dict_f, isi_dict_h, sSeq_w, seqK_nx, seqK_rt, seqK_bk, seqK_ct, seqK_ex, onK_ok, onK_ex, sNext_w, sSet_w, sOwn_w, sFrz_w, frzK_v, sApp_w, sExpr_w, sRet_w, sRetN_w, sIf_w, ifK_t, ifK_f, sBrk_w, sCnt_w, sPar_w, parK_v, sUnp_w, unpK_2, unpK_3, unpK_4, sHSet_w, hsK_0, hsK_1, hsK_2, hsK_3, sRaise_w, sFor_w, iSeq_w, seqOf_lst, seqOf_tup, seqOf_frz, iRng_w, loopK_nx, loopK_ct, loopK_bk, loopK_rt, for0, forN, loopF_nx, loopF_ct, loopF_bk, loopF_rt, loopF_ex, sWhile_w, nLc_w, lcB_ok, lc0, lcN, lcT_t, lcT_f, lcE_v, wipeE0, wipeE1, sTry_w, tryK_nx, tryK_rt, suiteK_nx, suiteK_rt, wipe0, wipe_v, wipe_n, wipe_o, call_w, callK_nx, callK_rt, callK_ex, vals0, vals1, List.length_cons, List.length_nil, List.replicate_succ, List.replicate_zero, List.cons_append, List.nil_append, List.getElem?_cons_zero, List.getElem?_cons_succ, List.set_cons_zero, List.set_cons_succ, Nat.reduceSub, Nat.reduceAdd, Nat.zero_add, Bool.not_true, Bool.not_false, Bool.and_self, Bool.and_true, Bool.and_false, e]
end
/-! ### the law's own sums -/
theorem lcentre_w {ls : List Ld} {k : Nat} (h : ∀ l ∈ ls, LdSz k l) (hl : 2 + (ls.length * (k + k + 1) + ls.length * (k + k + 1)) < 9000) : F__law_centre [.lst (ls.map ld)] w = .ok (.tup [rq (sW ls), rq (sA ls), rq (sB ls)]) w := by
  have ll := lenl (f := ld) h hl
  have t1 : ∀ w : Wd, F__law_sum [.lst (ls.map fun l => rq l.w)] w = .ok (rq (sW ls)) w := fun w => by
    have := lsum_q (w := w) (k := k) (xs := ls.map fun l => l.w) (fun x hx => by
      obtain ⟨l, hl, rfl⟩ := List.mem_map.mp hx
      exact (h l hl).1) (by rw [List.length_map]; exact bndW h hl)
    rwa [List.map_map] at this
  have t2 : ∀ w : Wd, F__law_sum [.lst (ls.map fun l => rq (l.w * l.a))] w = .ok (rq (sA ls)) w := fun w => by
    have := lsum_q (w := w) (k := k + k) (xs := ls.map fun l => l.w * l.a) (fun x hx => by
      obtain ⟨l, hl, rfl⟩ := List.mem_map.mp hx
      exact (h l hl).1.mul (h l hl).2.1) (by rw [List.length_map]; omega)
    rwa [List.map_map] at this
  have t3 : ∀ w : Wd, F__law_sum [.lst (ls.map fun l => rq (l.w * l.b))] w = .ok (rq (sB ls)) w := fun w => by
    have := lsum_q (w := w) (k := k + k) (xs := ls.map fun l => l.w * l.b) (fun x hx => by
      obtain ⟨l, hl, rfl⟩ := List.mem_map.mp hx
      exact (h l hl).1.mul (h l hl).2.2) (by rw [List.length_map]; omega)
    rwa [List.map_map] at this
  unfold F__law_centre
  simp only [bind_w, bindK_ok, bindK_ex, ret_w, fail_w, eVar_w, varK_v, eC_w, eUn_w, eBin_w, evs0_w, evs1_w, eTup_w, eLst_w, eCall_w, eIf_w, ifE_t, ifE_f, eAnd_w, andE_t, andE_f, eOr_w, orE_t, orE_f, eNot_w, eChain_w, chainM_w, eJs_w, js0, js1, chainK_t, chainK_f, eNew_w, eHand_w, handK_ok, eXf_w, tVal_w, tTru_w, tNot_w, tYes_w, tAnd_w, tOr_w, andT_t, andT_f, orT_t, orT_f, boolOf_w, truth_bl, truth_int, truth_non, truth_lst, truth_tup, truth_frz, add_int, sub_int, neg_int, lt_int, le_int, gt_int, ge_int, isNon_w, notNon_w, is_w, isNot_w, int_w, abs_w, gcd_w, tup_w, tupt_w, list_w, listl_w, len_lst, len_tup, len_frz, un1_w, bin2_w, eq_int, ne_int, eq_pair, ne_pair, ix_lst, ix_frz, ix_tup, ix_hand, itK_v, item0, item1, item2, item3, isi_int_i, isi_int_b, isi_int_n, isi_int_s, isi_int_t, isi_int_l, isi_int_f, isi_int_h, isi_bool_i, isi_bool_b, isi_bool_n, isi_bool_s, isi_bool_t, isi_bool_l, isi_bool_f, isi_bool_h, isi_str_i, isi_str_b, isi_str_n, isi_str_s, isi_str_t, isi_str_l, isi_str_f, isi_str_h, isi_tuple_i, isi_tuple_b, isi_tuple_n, isi_tuple_s, isi_tuple_t, isi_tuple_l, isi_tuple_f, isi_tuple_h, isi_list_i, isi_list_b, isi_list_n, isi_list_s, isi_list_t, isi_list_l, isi_list_f, isi_list_h, isi_dict_i, isi_dict_b, isi_dict_n, isi_dict_s, isi_dict_t, isi_dict_l, isi_dict_f, isi_dict_h, sSeq_w, seqK_nx, seqK_rt, seqK_bk, seqK_ct, seqK_ex, onK_ok, onK_ex, sNext_w, sSet_w, sOwn_w, sFrz_w, frzK_v, sApp_w, sExpr_w, sRet_w, sRetN_w, sIf_w, ifK_t, ifK_f, sBrk_w, sCnt_w, sPar_w, parK_v, sUnp_w, unpK_2, unpK_3, unpK_4, sHSet_w, hsK_0, hsK_1, hsK_2, hsK_3, sRaise_w, sFor_w, iSeq_w, seqOf_lst, seqOf_tup, seqOf_frz, iRng_w, loopK_nx, loopK_ct, loopK_bk, loopK_rt, for0, forN, loopF_nx, loopF_ct, loopF_bk, loopF_rt, loopF_ex, sWhile_w, nLc_w, lcB_ok, lc0, lcN, lcT_t, lcT_f, lcE_v, wipeE0, wipeE1, sTry_w, tryK_nx, tryK_rt, suiteK_nx, suiteK_rt, wipe0, wipe_v, wipe_n, wipe_o, call_w, callK_nx, callK_rt, callK_ex, vals0, vals1, List.length_cons, List.length_nil, List.replicate_succ, List.replicate_zero, List.cons_append, List.nil_append, List.getElem?_cons_zero, List.getElem?_cons_succ, List.set_cons_zero, List.set_cons_succ, Nat.reduceSub, Nat.reduceAdd, Nat.zero_add, Bool.not_true, Bool.not_false, Bool.and_self, Bool.and_true, Bool.and_false, lcM_v _ _ _ _ ll]
  rw [lcMap (g := fun l => rq l.w) 4 _ ls (fun l hm => by simp only [bind_w, bindK_ok, bindK_ex, ret_w, fail_w, eVar_w, varK_v, eC_w, eUn_w, eBin_w, evs0_w, evs1_w, eTup_w, eLst_w, eCall_w, eIf_w, ifE_t, ifE_f, eAnd_w, andE_t, andE_f, eOr_w, orE_t, orE_f, eNot_w, eChain_w, chainM_w, eJs_w, js0, js1, chainK_t, chainK_f, eNew_w, eHand_w, handK_ok, eXf_w, tVal_w, tTru_w, tNot_w, tYes_w, tAnd_w, tOr_w, andT_t, andT_f, orT_t, orT_f, boolOf_w, truth_bl, truth_int, truth_non, truth_lst, truth_tup, truth_frz, add_int, sub_int, neg_int, lt_int, le_int, gt_int, ge_int, isNon_w, notNon_w, is_w, isNot_w, int_w, abs_w, gcd_w, tup_w, tupt_w, list_w, listl_w, len_lst, len_tup, len_frz, un1_w, bin2_w, eq_int, ne_int, eq_pair, ne_pair, ix_lst, ix_frz, ix_tup, ix_hand, itK_v, item0, item1, item2, item3, isi_int_i, isi_int_b, isi_int_n, isi_int_s, isi_int_t, isi_int_l, isi_int_f, isi_int_h, isi_bool_i, isi_bool_b, isi_bool_n, isi_bool_s, isi_bool_t, isi_bool_l, isi_bool_f, isi_bool_h, isi_str_i, isi_str_b, isi_str_n, isi_str_s, isi_str_t, isi_str_l, isi_str_f, isi_str_h, isi_tuple_i, isi_tuple_b, isi_tuple_n, isi_tuple_s, isi_tuple_t, isi_tuple_l, isi_tuple_f, isi_tuple_h, isi_list_i, isi_list_b, isi_list_n, isi_list_s, isi_list_t, isi_list_l, isi_list_f, isi_list_h, isi_dict_i, isi_dict_b, isi_dict_n, isi_dict_s, isi_dict_t, isi_dict_l, isi_dict_f, isi_dict_h, sSeq_w, seqK_nx, seqK_rt, seqK_bk, seqK_ct, seqK_ex, onK_ok, onK_ex, sNext_w, sSet_w, sOwn_w, sFrz_w, frzK_v, sApp_w, sExpr_w, sRet_w, sRetN_w, sIf_w, ifK_t, ifK_f, sBrk_w, sCnt_w, sPar_w, parK_v, sUnp_w, unpK_2, unpK_3, unpK_4, sHSet_w, hsK_0, hsK_1, hsK_2, hsK_3, sRaise_w, sFor_w, iSeq_w, seqOf_lst, seqOf_tup, seqOf_frz, iRng_w, loopK_nx, loopK_ct, loopK_bk, loopK_rt, for0, forN, loopF_nx, loopF_ct, loopF_bk, loopF_rt, loopF_ex, sWhile_w, nLc_w, lcB_ok, lc0, lcN, lcT_t, lcT_f, lcE_v, wipeE0, wipeE1, sTry_w, tryK_nx, tryK_rt, suiteK_nx, suiteK_rt, wipe0, wipe_v, wipe_n, wipe_o, call_w, callK_nx, callK_rt, callK_ex, vals0, vals1, List.length_cons, List.length_nil, List.replicate_succ, List.replicate_zero, List.cons_append, List.nil_append, List.getElem?_cons_zero, List.getElem?_cons_succ, List.set_cons_zero, List.set_cons_succ, Nat.reduceSub, Nat.reduceAdd, Nat.zero_add, Bool.not_true, Bool.not_false, Bool.and_self, Bool.and_true, Bool.and_false])]
  simp only [bind_w, bindK_ok, bindK_ex, ret_w, fail_w, eVar_w, varK_v, eC_w, eUn_w, eBin_w, evs0_w, evs1_w, eTup_w, eLst_w, eCall_w, eIf_w, ifE_t, ifE_f, eAnd_w, andE_t, andE_f, eOr_w, orE_t, orE_f, eNot_w, eChain_w, chainM_w, eJs_w, js0, js1, chainK_t, chainK_f, eNew_w, eHand_w, handK_ok, eXf_w, tVal_w, tTru_w, tNot_w, tYes_w, tAnd_w, tOr_w, andT_t, andT_f, orT_t, orT_f, boolOf_w, truth_bl, truth_int, truth_non, truth_lst, truth_tup, truth_frz, add_int, sub_int, neg_int, lt_int, le_int, gt_int, ge_int, isNon_w, notNon_w, is_w, isNot_w, int_w, abs_w, gcd_w, tup_w, tupt_w, list_w, listl_w, len_lst, len_tup, len_frz, un1_w, bin2_w, eq_int, ne_int, eq_pair, ne_pair, ix_lst, ix_frz, ix_tup, ix_hand, itK_v, item0, item1, item2, item3, isi_int_i, isi_int_b, isi_int_n, isi_int_s, isi_int_t, isi_int_l, isi_int_f, isi_int_h, isi_bool_i, isi_bool_b, isi_bool_n, isi_bool_s, isi_bool_t, isi_bool_l, isi_bool_f, isi_bool_h, isi_str_i, isi_str_b, isi_str_n, isi_str_s, isi_str_t, isi_str_l, isi_str_f, isi_str_h, isi_tuple_i, isi_tuple_b, isi_tuple_n, isi_tuple_s, isi_tuple_t, isi_tuple_l, isi_tuple_f, isi_tuple_h, isi_list_i, isi_list_b, isi_list_n, isi_list_s, isi_list_t, isi_list_l, isi_list_f, isi_list_h, isi_dict_i, isi_dict_b, isi_dict_n, isi_dict_s, isi_dict_t, isi_dict_l, isi_dict_f, isi_dict_h, sSeq_w, seqK_nx, seqK_rt, seqK_bk, seqK_ct, seqK_ex, onK_ok, onK_ex, sNext_w, sSet_w, sOwn_w, sFrz_w, frzK_v, sApp_w, sExpr_w, sRet_w, sRetN_w, sIf_w, ifK_t, ifK_f, sBrk_w, sCnt_w, sPar_w, parK_v, sUnp_w, unpK_2, unpK_3, unpK_4, sHSet_w, hsK_0, hsK_1, hsK_2, hsK_3, sRaise_w, sFor_w, iSeq_w, seqOf_lst, seqOf_tup, seqOf_frz, iRng_w, loopK_nx, loopK_ct, loopK_bk, loopK_rt, for0, forN, loopF_nx, loopF_ct, loopF_bk, loopF_rt, loopF_ex, sWhile_w, nLc_w, lcB_ok, lc0, lcN, lcT_t, lcT_f, lcE_v, wipeE0, wipeE1, sTry_w, tryK_nx, tryK_rt, suiteK_nx, suiteK_rt, wipe0, wipe_v, wipe_n, wipe_o, call_w, callK_nx, callK_rt, callK_ex, vals0, vals1, List.length_cons, List.length_nil, List.replicate_succ, List.replicate_zero, List.cons_append, List.nil_append, List.getElem?_cons_zero, List.getElem?_cons_succ, List.set_cons_zero, List.set_cons_succ, Nat.reduceSub, Nat.reduceAdd, Nat.zero_add, Bool.not_true, Bool.not_false, Bool.and_self, Bool.and_true, Bool.and_false, t1, lcM_v _ _ _ _ ll]
  rw [lcMap (g := fun l => rq (l.w * l.a)) 4 _ ls (fun l hm => by simp only [bind_w, bindK_ok, bindK_ex, ret_w, fail_w, eVar_w, varK_v, eC_w, eUn_w, eBin_w, evs0_w, evs1_w, eTup_w, eLst_w, eCall_w, eIf_w, ifE_t, ifE_f, eAnd_w, andE_t, andE_f, eOr_w, orE_t, orE_f, eNot_w, eChain_w, chainM_w, eJs_w, js0, js1, chainK_t, chainK_f, eNew_w, eHand_w, handK_ok, eXf_w, tVal_w, tTru_w, tNot_w, tYes_w, tAnd_w, tOr_w, andT_t, andT_f, orT_t, orT_f, boolOf_w, truth_bl, truth_int, truth_non, truth_lst, truth_tup, truth_frz, add_int, sub_int, neg_int, lt_int, le_int, gt_int, ge_int, isNon_w, notNon_w, is_w, isNot_w, int_w, abs_w, gcd_w, tup_w, tupt_w, list_w, listl_w, len_lst, len_tup, len_frz, un1_w, bin2_w, eq_int, ne_int, eq_pair, ne_pair, ix_lst, ix_frz, ix_tup, ix_hand, itK_v, item0, item1, item2, item3, isi_int_i, isi_int_b, isi_int_n, isi_int_s, isi_int_t, isi_int_l, isi_int_f, isi_int_h, isi_bool_i, isi_bool_b, isi_bool_n, isi_bool_s, isi_bool_t, isi_bool_l, isi_bool_f, isi_bool_h, isi_str_i, isi_str_b, isi_str_n, isi_str_s, isi_str_t, isi_str_l, isi_str_f, isi_str_h, isi_tuple_i, isi_tuple_b, isi_tuple_n, isi_tuple_s, isi_tuple_t, isi_tuple_l, isi_tuple_f, isi_tuple_h, isi_list_i, isi_list_b, isi_list_n, isi_list_s, isi_list_t, isi_list_l, isi_list_f, isi_list_h, isi_dict_i, isi_dict_b, isi_dict_n, isi_dict_s, isi_dict_t, isi_dict_l, isi_dict_f, isi_dict_h, sSeq_w, seqK_nx, seqK_rt, seqK_bk, seqK_ct, seqK_ex, onK_ok, onK_ex, sNext_w, sSet_w, sOwn_w, sFrz_w, frzK_v, sApp_w, sExpr_w, sRet_w, sRetN_w, sIf_w, ifK_t, ifK_f, sBrk_w, sCnt_w, sPar_w, parK_v, sUnp_w, unpK_2, unpK_3, unpK_4, sHSet_w, hsK_0, hsK_1, hsK_2, hsK_3, sRaise_w, sFor_w, iSeq_w, seqOf_lst, seqOf_tup, seqOf_frz, iRng_w, loopK_nx, loopK_ct, loopK_bk, loopK_rt, for0, forN, loopF_nx, loopF_ct, loopF_bk, loopF_rt, loopF_ex, sWhile_w, nLc_w, lcB_ok, lc0, lcN, lcT_t, lcT_f, lcE_v, wipeE0, wipeE1, sTry_w, tryK_nx, tryK_rt, suiteK_nx, suiteK_rt, wipe0, wipe_v, wipe_n, wipe_o, call_w, callK_nx, callK_rt, callK_ex, vals0, vals1, List.length_cons, List.length_nil, List.replicate_succ, List.replicate_zero, List.cons_append, List.nil_append, List.getElem?_cons_zero, List.getElem?_cons_succ, List.set_cons_zero, List.set_cons_succ, Nat.reduceSub, Nat.reduceAdd, Nat.zero_add, Bool.not_true, Bool.not_false, Bool.and_self, Bool.and_true, Bool.and_false, ltimes_q (h l hm).1 (h l hm).2.1 (ksm h hl l hm)])]
  simp only [bind_w, bindK_ok, bindK_ex, ret_w, fail_w, eVar_w, varK_v, eC_w, eUn_w, eBin_w, evs0_w, evs1_w, eTup_w, eLst_w, eCall_w, eIf_w, ifE_t, ifE_f, eAnd_w, andE_t, andE_f, eOr_w, orE_t, orE_f, eNot_w, eChain_w, chainM_w, eJs_w, js0, js1, chainK_t, chainK_f, eNew_w, eHand_w, handK_ok, eXf_w, tVal_w, tTru_w, tNot_w, tYes_w, tAnd_w, tOr_w, andT_t, andT_f, orT_t, orT_f, boolOf_w, truth_bl, truth_int, truth_non, truth_lst, truth_tup, truth_frz, add_int, sub_int, neg_int, lt_int, le_int, gt_int, ge_int, isNon_w, notNon_w, is_w, isNot_w, int_w, abs_w, gcd_w, tup_w, tupt_w, list_w, listl_w, len_lst, len_tup, len_frz, un1_w, bin2_w, eq_int, ne_int, eq_pair, ne_pair, ix_lst, ix_frz, ix_tup, ix_hand, itK_v, item0, item1, item2, item3, isi_int_i, isi_int_b, isi_int_n, isi_int_s, isi_int_t, isi_int_l, isi_int_f, isi_int_h, isi_bool_i, isi_bool_b, isi_bool_n, isi_bool_s, isi_bool_t, isi_bool_l, isi_bool_f, isi_bool_h, isi_str_i, isi_str_b, isi_str_n, isi_str_s, isi_str_t, isi_str_l, isi_str_f, isi_str_h, isi_tuple_i, isi_tuple_b, isi_tuple_n, isi_tuple_s, isi_tuple_t, isi_tuple_l, isi_tuple_f, isi_tuple_h, isi_list_i, isi_list_b, isi_list_n, isi_list_s, isi_list_t, isi_list_l, isi_list_f, isi_list_h, isi_dict_i, isi_dict_b, isi_dict_n, isi_dict_s, isi_dict_t, isi_dict_l, isi_dict_f, isi_dict_h, sSeq_w, seqK_nx, seqK_rt, seqK_bk, seqK_ct, seqK_ex, onK_ok, onK_ex, sNext_w, sSet_w, sOwn_w, sFrz_w, frzK_v, sApp_w, sExpr_w, sRet_w, sRetN_w, sIf_w, ifK_t, ifK_f, sBrk_w, sCnt_w, sPar_w, parK_v, sUnp_w, unpK_2, unpK_3, unpK_4, sHSet_w, hsK_0, hsK_1, hsK_2, hsK_3, sRaise_w, sFor_w, iSeq_w, seqOf_lst, seqOf_tup, seqOf_frz, iRng_w, loopK_nx, loopK_ct, loopK_bk, loopK_rt, for0, forN, loopF_nx, loopF_ct, loopF_bk, loopF_rt, loopF_ex, sWhile_w, nLc_w, lcB_ok, lc0, lcN, lcT_t, lcT_f, lcE_v, wipeE0, wipeE1, sTry_w, tryK_nx, tryK_rt, suiteK_nx, suiteK_rt, wipe0, wipe_v, wipe_n, wipe_o, call_w, callK_nx, callK_rt, callK_ex, vals0, vals1, List.length_cons, List.length_nil, List.replicate_succ, List.replicate_zero, List.cons_append, List.nil_append, List.getElem?_cons_zero, List.getElem?_cons_succ, List.set_cons_zero, List.set_cons_succ, Nat.reduceSub, Nat.reduceAdd, Nat.zero_add, Bool.not_true, Bool.not_false, Bool.and_self, Bool.and_true, Bool.and_false, t2, lcM_v _ _ _ _ ll]
  rw [lcMap (g := fun l => rq (l.w * l.b)) 4 _ ls (fun l hm => by simp only [bind_w, bindK_ok, bindK_ex, ret_w, fail_w, eVar_w, varK_v, eC_w, eUn_w, eBin_w, evs0_w, evs1_w, eTup_w, eLst_w, eCall_w, eIf_w, ifE_t, ifE_f, eAnd_w, andE_t, andE_f, eOr_w, orE_t, orE_f, eNot_w, eChain_w, chainM_w, eJs_w, js0, js1, chainK_t, chainK_f, eNew_w, eHand_w, handK_ok, eXf_w, tVal_w, tTru_w, tNot_w, tYes_w, tAnd_w, tOr_w, andT_t, andT_f, orT_t, orT_f, boolOf_w, truth_bl, truth_int, truth_non, truth_lst, truth_tup, truth_frz, add_int, sub_int, neg_int, lt_int, le_int, gt_int, ge_int, isNon_w, notNon_w, is_w, isNot_w, int_w, abs_w, gcd_w, tup_w, tupt_w, list_w, listl_w, len_lst, len_tup, len_frz, un1_w, bin2_w, eq_int, ne_int, eq_pair, ne_pair, ix_lst, ix_frz, ix_tup, ix_hand, itK_v, item0, item1, item2, item3, isi_int_i, isi_int_b, isi_int_n, isi_int_s, isi_int_t, isi_int_l, isi_int_f, isi_int_h, isi_bool_i, isi_bool_b, isi_bool_n, isi_bool_s, isi_bool_t, isi_bool_l, isi_bool_f, isi_bool_h, isi_str_i, isi_str_b, isi_str_n, isi_str_s, isi_str_t, isi_str_l, isi_str_f, isi_str_h, isi_tuple_i, isi_tuple_b, isi_tuple_n, isi_tuple_s, isi_tuple_t, isi_tuple_l, isi_tuple_f, isi_tuple_h, isi_list_i, isi_list_b, isi_list_n, isi_list_s, isi_list_t, isi_list_l, isi_list_f, isi_list_h, isi_dict_i, isi_dict_b, isi_dict_n, isi_dict_s, isi_dict_t, isi_dict_l, isi_dict_f, isi_dict_h, sSeq_w, seqK_nx, seqK_rt, seqK_bk, seqK_ct, seqK_ex, onK_ok, onK_ex, sNext_w, sSet_w, sOwn_w, sFrz_w, frzK_v, sApp_w, sExpr_w, sRet_w, sRetN_w, sIf_w, ifK_t, ifK_f, sBrk_w, sCnt_w, sPar_w, parK_v, sUnp_w, unpK_2, unpK_3, unpK_4, sHSet_w, hsK_0, hsK_1, hsK_2, hsK_3, sRaise_w, sFor_w, iSeq_w, seqOf_lst, seqOf_tup, seqOf_frz, iRng_w, loopK_nx, loopK_ct, loopK_bk, loopK_rt, for0, forN, loopF_nx, loopF_ct, loopF_bk, loopF_rt, loopF_ex, sWhile_w, nLc_w, lcB_ok, lc0, lcN, lcT_t, lcT_f, lcE_v, wipeE0, wipeE1, sTry_w, tryK_nx, tryK_rt, suiteK_nx, suiteK_rt, wipe0, wipe_v, wipe_n, wipe_o, call_w, callK_nx, callK_rt, callK_ex, vals0, vals1, List.length_cons, List.length_nil, List.replicate_succ, List.replicate_zero, List.cons_append, List.nil_append, List.getElem?_cons_zero, List.getElem?_cons_succ, List.set_cons_zero, List.set_cons_succ, Nat.reduceSub, Nat.reduceAdd, Nat.zero_add, Bool.not_true, Bool.not_false, Bool.and_self, Bool.and_true, Bool.and_false, ltimes_q (h l hm).1 (h l hm).2.2 (ksm h hl l hm)])]
  simp only [bind_w, bindK_ok, bindK_ex, ret_w, fail_w, eVar_w, varK_v, eC_w, eUn_w, eBin_w, evs0_w, evs1_w, eTup_w, eLst_w, eCall_w, eIf_w, ifE_t, ifE_f, eAnd_w, andE_t, andE_f, eOr_w, orE_t, orE_f, eNot_w, eChain_w, chainM_w, eJs_w, js0, js1, chainK_t, chainK_f, eNew_w, eHand_w, handK_ok, eXf_w, tVal_w, tTru_w, tNot_w, tYes_w, tAnd_w, tOr_w, andT_t, andT_f, orT_t, orT_f, boolOf_w, truth_bl, truth_int, truth_non, truth_lst, truth_tup, truth_frz, add_int, sub_int, neg_int, lt_int, le_int, gt_int, ge_int, isNon_w, notNon_w, is_w, isNot_w, int_w, abs_w, gcd_w, tup_w, tupt_w, list_w, listl_w, len_lst, len_tup, len_frz, un1_w, bin2_w, eq_int, ne_int, eq_pair, ne_pair, ix_lst, ix_frz, ix_tup, ix_hand, itK_v, item0, item1, item2, item3, isi_int_i, isi_int_b, isi_int_n, isi_int_s, isi_int_t, isi_int_l, isi_int_f, isi_int_h, isi_bool_i, isi_bool_b, isi_bool_n, isi_bool_s, isi_bool_t, isi_bool_l, isi_bool_f, isi_bool_h, isi_str_i, isi_str_b, isi_str_n, isi_str_s, isi_str_t, isi_str_l, isi_str_f, isi_str_h, isi_tuple_i, isi_tuple_b, isi_tuple_n, isi_tuple_s, isi_tuple_t, isi_tuple_l, isi_tuple_f, isi_tuple_h, isi_list_i, isi_list_b, isi_list_n, isi_list_s, isi_list_t, isi_list_l, isi_list_f, isi_list_h, isi_dict_i, isi_dict_b, isi_dict_n, isi_dict_s, isi_dict_t, isi_dict_l, isi_dict_f, isi_dict_h, sSeq_w, seqK_nx, seqK_rt, seqK_bk, seqK_ct, seqK_ex, onK_ok, onK_ex, sNext_w, sSet_w, sOwn_w, sFrz_w, frzK_v, sApp_w, sExpr_w, sRet_w, sRetN_w, sIf_w, ifK_t, ifK_f, sBrk_w, sCnt_w, sPar_w, parK_v, sUnp_w, unpK_2, unpK_3, unpK_4, sHSet_w, hsK_0, hsK_1, hsK_2, hsK_3, sRaise_w, sFor_w, iSeq_w, seqOf_lst, seqOf_tup, seqOf_frz, iRng_w, loopK_nx, loopK_ct, loopK_bk, loopK_rt, for0, forN, loopF_nx, loopF_ct, loopF_bk, loopF_rt, loopF_ex, sWhile_w, nLc_w, lcB_ok, lc0, lcN, lcT_t, lcT_f, lcE_v, wipeE0, wipeE1, sTry_w, tryK_nx, tryK_rt, suiteK_nx, suiteK_rt, wipe0, wipe_v, wipe_n, wipe_o, call_w, callK_nx, callK_rt, callK_ex, vals0, vals1, List.length_cons, List.length_nil, List.replicate_succ, List.replicate_zero, List.cons_append, List.nil_append, List.getElem?_cons_zero, List.getElem?_cons_succ, List.set_cons_zero, List.set_cons_succ, Nat.reduceSub, Nat.reduceAdd, Nat.zero_add, Bool.not_true, Bool.not_false, Bool.and_self, Bool.and_true, Bool.and_false, t3]
/-! ### tuples of whole numbers -/
theorem tu_int (n : Nat) (i : Int) : F__law_tuples (n + 1) [.int i] w = .ok (.bl true) w := by
  unfold F__law_tuples
  simp only [bind_w, bindK_ok, bindK_ex, ret_w, fail_w, eVar_w, varK_v, eC_w, eUn_w, eBin_w, evs0_w, evs1_w, eTup_w, eLst_w, eCall_w, eIf_w, ifE_t, ifE_f, eAnd_w, andE_t, andE_f, eOr_w, orE_t, orE_f, eNot_w, eChain_w, chainM_w, eJs_w, js0, js1, chainK_t, chainK_f, eNew_w, eHand_w, handK_ok, eXf_w, tVal_w, tTru_w, tNot_w, tYes_w, tAnd_w, tOr_w, andT_t, andT_f, orT_t, orT_f, boolOf_w, truth_bl, truth_int, truth_non, truth_lst, truth_tup, truth_frz, add_int, sub_int, neg_int, lt_int, le_int, gt_int, ge_int, isNon_w, notNon_w, is_w, isNot_w, int_w, abs_w, gcd_w, tup_w, tupt_w, list_w, listl_w, len_lst, len_tup, len_frz, un1_w, bin2_w, eq_int, ne_int, eq_pair, ne_pair, ix_lst, ix_frz, ix_tup, ix_hand, itK_v, item0, item1, item2, item3, isi_int_i, isi_int_b, isi_int_n, isi_int_s, isi_int_t, isi_int_l, isi_int_f, isi_int_h, isi_bool_i, isi_bool_b, isi_bool_n, isi_bool_s, isi_bool_t, isi_bool_l, isi_bool_f, isi_bool_h, isi_str_i, isi_str_b, isi_str_n, isi_str_s, isi_str_t, isi_str_l, isi_str_f, isi_str_h, isi_tuple_i, isi_tuple_b, isi_tuple_n, isi_tuple_s, isi_tuple_t, isi_tuple_l, isi_tuple_f, isi_tuple_h, isi_list_i, isi_list_b, isi_list_n, isi_list_s, isi_list_t, isi_list_l, isi_list_f, isi_list_h, isi_dict_i, isi_dict_b, isi_dict_n, isi_dict_s, isi_dict_t, isi_dict_l, isi_dict_f, isi_dict_h, sSeq_w, seqK_nx, seqK_rt, seqK_bk, seqK_ct, seqK_ex, onK_ok, onK_ex, sNext_w, sSet_w, sOwn_w, sFrz_w, frzK_v, sApp_w, sExpr_w, sRet_w, sRetN_w, sIf_w, ifK_t, ifK_f, sBrk_w, sCnt_w, sPar_w, parK_v, sUnp_w, unpK_2, unpK_3, unpK_4, sHSet_w, hsK_0, hsK_1, hsK_2, hsK_3, sRaise_w, sFor_w, iSeq_w, seqOf_lst, seqOf_tup, seqOf_frz, iRng_w, loopK_nx, loopK_ct, loopK_bk, loopK_rt, for0, forN, loopF_nx, loopF_ct, loopF_bk, loopF_rt, loopF_ex, sWhile_w, nLc_w, lcB_ok, lc0, lcN, lcT_t, lcT_f, lcE_v, wipeE0, wipeE1, sTry_w, tryK_nx, tryK_rt, suiteK_nx, suiteK_rt, wipe0, wipe_v, wipe_n, wipe_o, call_w, callK_nx, callK_rt, callK_ex, vals0, vals1, List.length_cons, List.length_nil, List.replicate_succ, List.replicate_zero, List.cons_append, List.nil_append, List.getElem?_cons_zero, List.getElem?_cons_succ, List.set_cons_zero, List.set_cons_succ, Nat.reduceSub, Nat.reduceAdd, Nat.zero_add, Bool.not_true, Bool.not_false, Bool.and_self, Bool.and_true, Bool.and_false]
theorem tu_tup {n : Nat} {xs : List D} (h : ∀ x ∈ xs, ∀ w, F__law_tuples n [x] w = .ok (.bl true) w) (hl : xs.length ≤ line) : F__law_tuples (n + 1) [.tup xs] w = .ok (.bl true) w := by
  unfold F__law_tuples
  simp only [bind_w, bindK_ok, bindK_ex, ret_w, fail_w, eVar_w, varK_v, eC_w, eUn_w, eBin_w, evs0_w, evs1_w, eTup_w, eLst_w, eCall_w, eIf_w, ifE_t, ifE_f, eAnd_w, andE_t, andE_f, eOr_w, orE_t, orE_f, eNot_w, eChain_w, chainM_w, eJs_w, js0, js1, chainK_t, chainK_f, eNew_w, eHand_w, handK_ok, eXf_w, tVal_w, tTru_w, tNot_w, tYes_w, tAnd_w, tOr_w, andT_t, andT_f, orT_t, orT_f, boolOf_w, truth_bl, truth_int, truth_non, truth_lst, truth_tup, truth_frz, add_int, sub_int, neg_int, lt_int, le_int, gt_int, ge_int, isNon_w, notNon_w, is_w, isNot_w, int_w, abs_w, gcd_w, tup_w, tupt_w, list_w, listl_w, len_lst, len_tup, len_frz, un1_w, bin2_w, eq_int, ne_int, eq_pair, ne_pair, ix_lst, ix_frz, ix_tup, ix_hand, itK_v, item0, item1, item2, item3, isi_int_i, isi_int_b, isi_int_n, isi_int_s, isi_int_t, isi_int_l, isi_int_f, isi_int_h, isi_bool_i, isi_bool_b, isi_bool_n, isi_bool_s, isi_bool_t, isi_bool_l, isi_bool_f, isi_bool_h, isi_str_i, isi_str_b, isi_str_n, isi_str_s, isi_str_t, isi_str_l, isi_str_f, isi_str_h, isi_tuple_i, isi_tuple_b, isi_tuple_n, isi_tuple_s, isi_tuple_t, isi_tuple_l, isi_tuple_f, isi_tuple_h, isi_list_i, isi_list_b, isi_list_n, isi_list_s, isi_list_t, isi_list_l, isi_list_f, isi_list_h, isi_dict_i, isi_dict_b, isi_dict_n, isi_dict_s, isi_dict_t, isi_dict_l, isi_dict_f, isi_dict_h, sSeq_w, seqK_nx, seqK_rt, seqK_bk, seqK_ct, seqK_ex, onK_ok, onK_ex, sNext_w, sSet_w, sOwn_w, sFrz_w, frzK_v, sApp_w, sExpr_w, sRet_w, sRetN_w, sIf_w, ifK_t, ifK_f, sBrk_w, sCnt_w, sPar_w, parK_v, sUnp_w, unpK_2, unpK_3, unpK_4, sHSet_w, hsK_0, hsK_1, hsK_2, hsK_3, sRaise_w, sFor_w, iSeq_w, seqOf_lst, seqOf_tup, seqOf_frz, iRng_w, loopK_nx, loopK_ct, loopK_bk, loopK_rt, for0, forN, loopF_nx, loopF_ct, loopF_bk, loopF_rt, loopF_ex, sWhile_w, nLc_w, lcB_ok, lc0, lcN, lcT_t, lcT_f, lcE_v, wipeE0, wipeE1, sTry_w, tryK_nx, tryK_rt, suiteK_nx, suiteK_rt, wipe0, wipe_v, wipe_n, wipe_o, call_w, callK_nx, callK_rt, callK_ex, vals0, vals1, List.length_cons, List.length_nil, List.replicate_succ, List.replicate_zero, List.cons_append, List.nil_append, List.getElem?_cons_zero, List.getElem?_cons_succ, List.set_cons_zero, List.set_cons_succ, Nat.reduceSub, Nat.reduceAdd, Nat.zero_add, Bool.not_true, Bool.not_false, Bool.and_self, Bool.and_true, Bool.and_false, lcM_v _ _ _ _ hl]
  have := lcNone (f := id) (w := w) (ρ := [.val (.tup xs), .none]) 1 (tNot (tTru (eCall (F__law_tuples n) [(eVar 1)]))) (eC (.int 1)) xs (fun x hx => by
    simp only [bind_w, bindK_ok, bindK_ex, ret_w, fail_w, eVar_w, varK_v, eC_w, eUn_w, eBin_w, evs0_w, evs1_w, eTup_w, eLst_w, eCall_w, eIf_w, ifE_t, ifE_f, eAnd_w, andE_t, andE_f, eOr_w, orE_t, orE_f, eNot_w, eChain_w, chainM_w, eJs_w, js0, js1, chainK_t, chainK_f, eNew_w, eHand_w, handK_ok, eXf_w, tVal_w, tTru_w, tNot_w, tYes_w, tAnd_w, tOr_w, andT_t, andT_f, orT_t, orT_f, boolOf_w, truth_bl, truth_int, truth_non, truth_lst, truth_tup, truth_frz, add_int, sub_int, neg_int, lt_int, le_int, gt_int, ge_int, isNon_w, notNon_w, is_w, isNot_w, int_w, abs_w, gcd_w, tup_w, tupt_w, list_w, listl_w, len_lst, len_tup, len_frz, un1_w, bin2_w, eq_int, ne_int, eq_pair, ne_pair, ix_lst, ix_frz, ix_tup, ix_hand, itK_v, item0, item1, item2, item3, isi_int_i, isi_int_b, isi_int_n, isi_int_s, isi_int_t, isi_int_l, isi_int_f, isi_int_h, isi_bool_i, isi_bool_b, isi_bool_n, isi_bool_s, isi_bool_t, isi_bool_l, isi_bool_f, isi_bool_h, isi_str_i, isi_str_b, isi_str_n, isi_str_s, isi_str_t, isi_str_l, isi_str_f, isi_str_h, isi_tuple_i, isi_tuple_b, isi_tuple_n, isi_tuple_s, isi_tuple_t, isi_tuple_l, isi_tuple_f, isi_tuple_h, isi_list_i, isi_list_b, isi_list_n, isi_list_s, isi_list_t, isi_list_l, isi_list_f, isi_list_h, isi_dict_i, isi_dict_b, isi_dict_n, isi_dict_s, isi_dict_t, isi_dict_l, isi_dict_f, isi_dict_h, sSeq_w, seqK_nx, seqK_rt, seqK_bk, seqK_ct, seqK_ex, onK_ok, onK_ex, sNext_w, sSet_w, sOwn_w, sFrz_w, frzK_v, sApp_w, sExpr_w, sRet_w, sRetN_w, sIf_w, ifK_t, ifK_f, sBrk_w, sCnt_w, sPar_w, parK_v, sUnp_w, unpK_2, unpK_3, unpK_4, sHSet_w, hsK_0, hsK_1, hsK_2, hsK_3, sRaise_w, sFor_w, iSeq_w, seqOf_lst, seqOf_tup, seqOf_frz, iRng_w, loopK_nx, loopK_ct, loopK_bk, loopK_rt, for0, forN, loopF_nx, loopF_ct, loopF_bk, loopF_rt, loopF_ex, sWhile_w, nLc_w, lcB_ok, lc0, lcN, lcT_t, lcT_f, lcE_v, wipeE0, wipeE1, sTry_w, tryK_nx, tryK_rt, suiteK_nx, suiteK_rt, wipe0, wipe_v, wipe_n, wipe_o, call_w, callK_nx, callK_rt, callK_ex, vals0, vals1, List.length_cons, List.length_nil, List.replicate_succ, List.replicate_zero, List.cons_append, List.nil_append, List.getElem?_cons_zero, List.getElem?_cons_succ, List.set_cons_zero, List.set_cons_succ, Nat.reduceSub, Nat.reduceAdd, Nat.zero_add, Bool.not_true, Bool.not_false, Bool.and_self, Bool.and_true, Bool.and_false, id, h x hx])
  rw [List.map_id] at this
  rw [this]
  simp only [bind_w, bindK_ok, bindK_ex, ret_w, fail_w, eVar_w, varK_v, eC_w, eUn_w, eBin_w, evs0_w, evs1_w, eTup_w, eLst_w, eCall_w, eIf_w, ifE_t, ifE_f, eAnd_w, andE_t, andE_f, eOr_w, orE_t, orE_f, eNot_w, eChain_w, chainM_w, eJs_w, js0, js1, chainK_t, chainK_f, eNew_w, eHand_w, handK_ok, eXf_w, tVal_w, tTru_w, tNot_w, tYes_w, tAnd_w, tOr_w, andT_t, andT_f, orT_t, orT_f, boolOf_w, truth_bl, truth_int, truth_non, truth_lst, truth_tup, truth_frz, add_int, sub_int, neg_int, lt_int, le_int, gt_int, ge_int, isNon_w, notNon_w, is_w, isNot_w, int_w, abs_w, gcd_w, tup_w, tupt_w, list_w, listl_w, len_lst, len_tup, len_frz, un1_w, bin2_w, eq_int, ne_int, eq_pair, ne_pair, ix_lst, ix_frz, ix_tup, ix_hand, itK_v, item0, item1, item2, item3, isi_int_i, isi_int_b, isi_int_n, isi_int_s, isi_int_t, isi_int_l, isi_int_f, isi_int_h, isi_bool_i, isi_bool_b, isi_bool_n, isi_bool_s, isi_bool_t, isi_bool_l, isi_bool_f, isi_bool_h, isi_str_i, isi_str_b, isi_str_n, isi_str_s, isi_str_t, isi_str_l, isi_str_f, isi_str_h, isi_tuple_i, isi_tuple_b, isi_tuple_n, isi_tuple_s, isi_tuple_t, isi_tuple_l, isi_tuple_f, isi_tuple_h, isi_list_i, isi_list_b, isi_list_n, isi_list_s, isi_list_t, isi_list_l, isi_list_f, isi_list_h, isi_dict_i, isi_dict_b, isi_dict_n, isi_dict_s, isi_dict_t, isi_dict_l, isi_dict_f, isi_dict_h, sSeq_w, seqK_nx, seqK_rt, seqK_bk, seqK_ct, seqK_ex, onK_ok, onK_ex, sNext_w, sSet_w, sOwn_w, sFrz_w, frzK_v, sApp_w, sExpr_w, sRet_w, sRetN_w, sIf_w, ifK_t, ifK_f, sBrk_w, sCnt_w, sPar_w, parK_v, sUnp_w, unpK_2, unpK_3, unpK_4, sHSet_w, hsK_0, hsK_1, hsK_2, hsK_3, sRaise_w, sFor_w, iSeq_w, seqOf_lst, seqOf_tup, seqOf_frz, iRng_w, loopK_nx, loopK_ct, loopK_bk, loopK_rt, for0, forN, loopF_nx, loopF_ct, loopF_bk, loopF_rt, loopF_ex, sWhile_w, nLc_w, lcB_ok, lc0, lcN, lcT_t, lcT_f, lcE_v, wipeE0, wipeE1, sTry_w, tryK_nx, tryK_rt, suiteK_nx, suiteK_rt, wipe0, wipe_v, wipe_n, wipe_o, call_w, callK_nx, callK_rt, callK_ex, vals0, vals1, List.length_cons, List.length_nil, List.replicate_succ, List.replicate_zero, List.cons_append, List.nil_append, List.getElem?_cons_zero, List.getElem?_cons_succ, List.set_cons_zero, List.set_cons_succ, Nat.reduceSub, Nat.reduceAdd, Nat.zero_add, Bool.not_true, Bool.not_false, Bool.and_self, Bool.and_true, Bool.and_false, List.isEmpty_nil]
theorem tu_rq (n : Nat) (q : Rat) : F__law_tuples (n + 2) [rq q] w = .ok (.bl true) w := tu_tup (fun x hx w => by
  simp only [List.mem_cons, List.not_mem_nil, or_false] at hx
  rcases hx with rfl | rfl <;> exact tu_int _ _) (by unfold line; simp)
theorem tu_ld (l : Ld) : F__law_tuples 5 [ld l] w = .ok (.bl true) w := tu_tup (fun x hx w => by
  simp only [List.mem_cons, List.not_mem_nil, or_false] at hx
  rcases hx with rfl | rfl
  · exact tu_rq 2 _
  · exact tu_tup (fun x hx w => by
      simp only [List.mem_cons, List.not_mem_nil, or_false] at hx
      rcases hx with rfl | rfl <;> exact tu_rq 1 _) (by unfold line; simp)) (by unfold line; simp)
theorem tu_lds {ls : List Ld} (hl : ls.length ≤ 1000) : F__law_tuples 6 [.tup (ls.map ld)] w = .ok (.bl true) w := tu_tup (fun x hx w => by
  obtain ⟨l, _, rfl⟩ := List.mem_map.mp hx
  exact tu_ld l) (by rw [List.length_map]; unfold line; omega)
/-! ### drawn numbers -/
theorem sz4 {i : Int} (h0 : 0 ≤ i) (h : i ≤ 1000000000000) : Sz 40 i := sz_of h0 (by omega)
theorem bounded_w (hi : HandI w) : ∃ v w', F__law_bounded [.hand] w = .ok (.int v) w' ∧ 1 ≤ v ∧ v ≤ 1000000000000 ∧ HandI w' := by
  have pw : ∀ w : Wd, powD (.int 10) (.int 12) w = .ok (.int 1000000000000) w := fun w => by rw [pow_int (by decide)]; rfl
  have p6 : ∀ w : Wd, powD (.int 10) (.int 6) w = .ok (.int 1000000) w := fun w => by rw [pow_int (by decide)]; rfl
  obtain ⟨k, w1, e1, k0, k9, h1⟩ := take_w (many := 8) (k := 4) hi (by decide) (by unfold Sz; decide) (by decide)
  unfold F__law_bounded
  by_cases hk : k < 6
  · obtain ⟨v, w2, e2, v0, v9, h2⟩ := take_w (many := 4) (k := 3) h1 (by decide) (by unfold Sz; decide) (by decide)
    simp only [bind_w, bindK_ok, bindK_ex, ret_w, fail_w, eVar_w, varK_v, eC_w, eUn_w, eBin_w, evs0_w, evs1_w, eTup_w, eLst_w, eCall_w, eIf_w, ifE_t, ifE_f, eAnd_w, andE_t, andE_f, eOr_w, orE_t, orE_f, eNot_w, eChain_w, chainM_w, eJs_w, js0, js1, chainK_t, chainK_f, eNew_w, eHand_w, handK_ok, eXf_w, tVal_w, tTru_w, tNot_w, tYes_w, tAnd_w, tOr_w, andT_t, andT_f, orT_t, orT_f, boolOf_w, truth_bl, truth_int, truth_non, truth_lst, truth_tup, truth_frz, add_int, sub_int, neg_int, lt_int, le_int, gt_int, ge_int, isNon_w, notNon_w, is_w, isNot_w, int_w, abs_w, gcd_w, tup_w, tupt_w, list_w, listl_w, len_lst, len_tup, len_frz, un1_w, bin2_w, eq_int, ne_int, eq_pair, ne_pair, ix_lst, ix_frz, ix_tup, ix_hand, itK_v, item0, item1, item2, item3, isi_int_i, isi_int_b, isi_int_n, isi_int_s, isi_int_t, isi_int_l, isi_int_f, isi_int_h, isi_bool_i, isi_bool_b, isi_bool_n, isi_bool_s, isi_bool_t, isi_bool_l, isi_bool_f, isi_bool_h, isi_str_i, isi_str_b, isi_str_n, isi_str_s, isi_str_t, isi_str_l, isi_str_f, isi_str_h, isi_tuple_i, isi_tuple_b, isi_tuple_n, isi_tuple_s, isi_tuple_t, isi_tuple_l, isi_tuple_f, isi_tuple_h, isi_list_i, isi_list_b, isi_list_n, isi_list_s, isi_list_t, isi_list_l, isi_list_f, isi_list_h, isi_dict_i, isi_dict_b, isi_dict_n, isi_dict_s, isi_dict_t, isi_dict_l, isi_dict_f, isi_dict_h, sSeq_w, seqK_nx, seqK_rt, seqK_bk, seqK_ct, seqK_ex, onK_ok, onK_ex, sNext_w, sSet_w, sOwn_w, sFrz_w, frzK_v, sApp_w, sExpr_w, sRet_w, sRetN_w, sIf_w, ifK_t, ifK_f, sBrk_w, sCnt_w, sPar_w, parK_v, sUnp_w, unpK_2, unpK_3, unpK_4, sHSet_w, hsK_0, hsK_1, hsK_2, hsK_3, sRaise_w, sFor_w, iSeq_w, seqOf_lst, seqOf_tup, seqOf_frz, iRng_w, loopK_nx, loopK_ct, loopK_bk, loopK_rt, for0, forN, loopF_nx, loopF_ct, loopF_bk, loopF_rt, loopF_ex, sWhile_w, nLc_w, lcB_ok, lc0, lcN, lcT_t, lcT_f, lcE_v, wipeE0, wipeE1, sTry_w, tryK_nx, tryK_rt, suiteK_nx, suiteK_rt, wipe0, wipe_v, wipe_n, wipe_o, call_w, callK_nx, callK_rt, callK_ex, vals0, vals1, List.length_cons, List.length_nil, List.replicate_succ, List.replicate_zero, List.cons_append, List.nil_append, List.getElem?_cons_zero, List.getElem?_cons_succ, List.set_cons_zero, List.set_cons_succ, Nat.reduceSub, Nat.reduceAdd, Nat.zero_add, Bool.not_true, Bool.not_false, Bool.and_self, Bool.and_true, Bool.and_false, e1, hk, decide_true, e2]
    exact ⟨_, _, rfl, by omega, by omega, h2⟩
  · by_cases h6 : k = 6
    · subst h6
      simp only [bind_w, bindK_ok, bindK_ex, ret_w, fail_w, eVar_w, varK_v, eC_w, eUn_w, eBin_w, evs0_w, evs1_w, eTup_w, eLst_w, eCall_w, eIf_w, ifE_t, ifE_f, eAnd_w, andE_t, andE_f, eOr_w, orE_t, orE_f, eNot_w, eChain_w, chainM_w, eJs_w, js0, js1, chainK_t, chainK_f, eNew_w, eHand_w, handK_ok, eXf_w, tVal_w, tTru_w, tNot_w, tYes_w, tAnd_w, tOr_w, andT_t, andT_f, orT_t, orT_f, boolOf_w, truth_bl, truth_int, truth_non, truth_lst, truth_tup, truth_frz, add_int, sub_int, neg_int, lt_int, le_int, gt_int, ge_int, isNon_w, notNon_w, is_w, isNot_w, int_w, abs_w, gcd_w, tup_w, tupt_w, list_w, listl_w, len_lst, len_tup, len_frz, un1_w, bin2_w, eq_int, ne_int, eq_pair, ne_pair, ix_lst, ix_frz, ix_tup, ix_hand, itK_v, item0, item1, item2, item3, isi_int_i, isi_int_b, isi_int_n, isi_int_s, isi_int_t, isi_int_l, isi_int_f, isi_int_h, isi_bool_i, isi_bool_b, isi_bool_n, isi_bool_s, isi_bool_t, isi_bool_l, isi_bool_f, isi_bool_h, isi_str_i, isi_str_b, isi_str_n, isi_str_s, isi_str_t, isi_str_l, isi_str_f, isi_str_h, isi_tuple_i, isi_tuple_b, isi_tuple_n, isi_tuple_s, isi_tuple_t, isi_tuple_l, isi_tuple_f, isi_tuple_h, isi_list_i, isi_list_b, isi_list_n, isi_list_s, isi_list_t, isi_list_l, isi_list_f, isi_list_h, isi_dict_i, isi_dict_b, isi_dict_n, isi_dict_s, isi_dict_t, isi_dict_l, isi_dict_f, isi_dict_h, sSeq_w, seqK_nx, seqK_rt, seqK_bk, seqK_ct, seqK_ex, onK_ok, onK_ex, sNext_w, sSet_w, sOwn_w, sFrz_w, frzK_v, sApp_w, sExpr_w, sRet_w, sRetN_w, sIf_w, ifK_t, ifK_f, sBrk_w, sCnt_w, sPar_w, parK_v, sUnp_w, unpK_2, unpK_3, unpK_4, sHSet_w, hsK_0, hsK_1, hsK_2, hsK_3, sRaise_w, sFor_w, iSeq_w, seqOf_lst, seqOf_tup, seqOf_frz, iRng_w, loopK_nx, loopK_ct, loopK_bk, loopK_rt, for0, forN, loopF_nx, loopF_ct, loopF_bk, loopF_rt, loopF_ex, sWhile_w, nLc_w, lcB_ok, lc0, lcN, lcT_t, lcT_f, lcE_v, wipeE0, wipeE1, sTry_w, tryK_nx, tryK_rt, suiteK_nx, suiteK_rt, wipe0, wipe_v, wipe_n, wipe_o, call_w, callK_nx, callK_rt, callK_ex, vals0, vals1, List.length_cons, List.length_nil, List.replicate_succ, List.replicate_zero, List.cons_append, List.nil_append, List.getElem?_cons_zero, List.getElem?_cons_succ, List.set_cons_zero, List.set_cons_succ, Nat.reduceSub, Nat.reduceAdd, Nat.zero_add, Bool.not_true, Bool.not_false, Bool.and_self, Bool.and_true, Bool.and_false, e1, hk, decide_false, beq_self_eq_true, pw]
      exact ⟨_, _, rfl, by omega, by omega, h1⟩
    · have e6 : (k == 6) = false := by simpa using h6
      obtain ⟨v, w2, e2, v0, v9, h2⟩ := take_w (many := 1000000) (k := 20) h1 (by decide) (by unfold Sz; decide) (by decide)
      obtain ⟨u, w3, e3, u0, u9, h3⟩ := take_w (many := 1000000) (k := 20) h2 (by decide) (by unfold Sz; decide) (by decide)
      simp only [bind_w, bindK_ok, bindK_ex, ret_w, fail_w, eVar_w, varK_v, eC_w, eUn_w, eBin_w, evs0_w, evs1_w, eTup_w, eLst_w, eCall_w, eIf_w, ifE_t, ifE_f, eAnd_w, andE_t, andE_f, eOr_w, orE_t, orE_f, eNot_w, eChain_w, chainM_w, eJs_w, js0, js1, chainK_t, chainK_f, eNew_w, eHand_w, handK_ok, eXf_w, tVal_w, tTru_w, tNot_w, tYes_w, tAnd_w, tOr_w, andT_t, andT_f, orT_t, orT_f, boolOf_w, truth_bl, truth_int, truth_non, truth_lst, truth_tup, truth_frz, add_int, sub_int, neg_int, lt_int, le_int, gt_int, ge_int, isNon_w, notNon_w, is_w, isNot_w, int_w, abs_w, gcd_w, tup_w, tupt_w, list_w, listl_w, len_lst, len_tup, len_frz, un1_w, bin2_w, eq_int, ne_int, eq_pair, ne_pair, ix_lst, ix_frz, ix_tup, ix_hand, itK_v, item0, item1, item2, item3, isi_int_i, isi_int_b, isi_int_n, isi_int_s, isi_int_t, isi_int_l, isi_int_f, isi_int_h, isi_bool_i, isi_bool_b, isi_bool_n, isi_bool_s, isi_bool_t, isi_bool_l, isi_bool_f, isi_bool_h, isi_str_i, isi_str_b, isi_str_n, isi_str_s, isi_str_t, isi_str_l, isi_str_f, isi_str_h, isi_tuple_i, isi_tuple_b, isi_tuple_n, isi_tuple_s, isi_tuple_t, isi_tuple_l, isi_tuple_f, isi_tuple_h, isi_list_i, isi_list_b, isi_list_n, isi_list_s, isi_list_t, isi_list_l, isi_list_f, isi_list_h, isi_dict_i, isi_dict_b, isi_dict_n, isi_dict_s, isi_dict_t, isi_dict_l, isi_dict_f, isi_dict_h, sSeq_w, seqK_nx, seqK_rt, seqK_bk, seqK_ct, seqK_ex, onK_ok, onK_ex, sNext_w, sSet_w, sOwn_w, sFrz_w, frzK_v, sApp_w, sExpr_w, sRet_w, sRetN_w, sIf_w, ifK_t, ifK_f, sBrk_w, sCnt_w, sPar_w, parK_v, sUnp_w, unpK_2, unpK_3, unpK_4, sHSet_w, hsK_0, hsK_1, hsK_2, hsK_3, sRaise_w, sFor_w, iSeq_w, seqOf_lst, seqOf_tup, seqOf_frz, iRng_w, loopK_nx, loopK_ct, loopK_bk, loopK_rt, for0, forN, loopF_nx, loopF_ct, loopF_bk, loopF_rt, loopF_ex, sWhile_w, nLc_w, lcB_ok, lc0, lcN, lcT_t, lcT_f, lcE_v, wipeE0, wipeE1, sTry_w, tryK_nx, tryK_rt, suiteK_nx, suiteK_rt, wipe0, wipe_v, wipe_n, wipe_o, call_w, callK_nx, callK_rt, callK_ex, vals0, vals1, List.length_cons, List.length_nil, List.replicate_succ, List.replicate_zero, List.cons_append, List.nil_append, List.getElem?_cons_zero, List.getElem?_cons_succ, List.set_cons_zero, List.set_cons_succ, Nat.reduceSub, Nat.reduceAdd, Nat.zero_add, Bool.not_true, Bool.not_false, Bool.and_self, Bool.and_true, Bool.and_false, e1, hk, e6, decide_false, p6, e2, mul_int (sz4 v0 (by omega)) (show Sz 20 1000000 by unfold Sz; decide), e3]
      exact ⟨_, _, rfl, by omega, by omega, h3⟩
theorem arm_w (hi : HandI w) : ∃ q w', F__law_arm [.hand] w = .ok (rq q) w' ∧ Sm q ∧ 0 ≤ q.num ∧ HandI w' := by
  obtain ⟨k, w1, e1, k0, k9, h1⟩ := take_w (many := 4) (k := 3) hi (by decide) (by unfold Sz; decide) (by decide)
  unfold F__law_arm
  by_cases hk : k = 0
  · subst hk
    obtain ⟨a, w2, e2, a0, a9, h2⟩ := bounded_w h1
    obtain ⟨b, w3, e3, b0, b9, h3⟩ := bounded_w h2
    have z : ((0 : Int) != 0) = false := by decide
    simp only [bind_w, bindK_ok, bindK_ex, ret_w, fail_w, eVar_w, varK_v, eC_w, eUn_w, eBin_w, evs0_w, evs1_w, eTup_w, eLst_w, eCall_w, eIf_w, ifE_t, ifE_f, eAnd_w, andE_t, andE_f, eOr_w, orE_t, orE_f, eNot_w, eChain_w, chainM_w, eJs_w, js0, js1, chainK_t, chainK_f, eNew_w, eHand_w, handK_ok, eXf_w, tVal_w, tTru_w, tNot_w, tYes_w, tAnd_w, tOr_w, andT_t, andT_f, orT_t, orT_f, boolOf_w, truth_bl, truth_int, truth_non, truth_lst, truth_tup, truth_frz, add_int, sub_int, neg_int, lt_int, le_int, gt_int, ge_int, isNon_w, notNon_w, is_w, isNot_w, int_w, abs_w, gcd_w, tup_w, tupt_w, list_w, listl_w, len_lst, len_tup, len_frz, un1_w, bin2_w, eq_int, ne_int, eq_pair, ne_pair, ix_lst, ix_frz, ix_tup, ix_hand, itK_v, item0, item1, item2, item3, isi_int_i, isi_int_b, isi_int_n, isi_int_s, isi_int_t, isi_int_l, isi_int_f, isi_int_h, isi_bool_i, isi_bool_b, isi_bool_n, isi_bool_s, isi_bool_t, isi_bool_l, isi_bool_f, isi_bool_h, isi_str_i, isi_str_b, isi_str_n, isi_str_s, isi_str_t, isi_str_l, isi_str_f, isi_str_h, isi_tuple_i, isi_tuple_b, isi_tuple_n, isi_tuple_s, isi_tuple_t, isi_tuple_l, isi_tuple_f, isi_tuple_h, isi_list_i, isi_list_b, isi_list_n, isi_list_s, isi_list_t, isi_list_l, isi_list_f, isi_list_h, isi_dict_i, isi_dict_b, isi_dict_n, isi_dict_s, isi_dict_t, isi_dict_l, isi_dict_f, isi_dict_h, sSeq_w, seqK_nx, seqK_rt, seqK_bk, seqK_ct, seqK_ex, onK_ok, onK_ex, sNext_w, sSet_w, sOwn_w, sFrz_w, frzK_v, sApp_w, sExpr_w, sRet_w, sRetN_w, sIf_w, ifK_t, ifK_f, sBrk_w, sCnt_w, sPar_w, parK_v, sUnp_w, unpK_2, unpK_3, unpK_4, sHSet_w, hsK_0, hsK_1, hsK_2, hsK_3, sRaise_w, sFor_w, iSeq_w, seqOf_lst, seqOf_tup, seqOf_frz, iRng_w, loopK_nx, loopK_ct, loopK_bk, loopK_rt, for0, forN, loopF_nx, loopF_ct, loopF_bk, loopF_rt, loopF_ex, sWhile_w, nLc_w, lcB_ok, lc0, lcN, lcT_t, lcT_f, lcE_v, wipeE0, wipeE1, sTry_w, tryK_nx, tryK_rt, suiteK_nx, suiteK_rt, wipe0, wipe_v, wipe_n, wipe_o, call_w, callK_nx, callK_rt, callK_ex, vals0, vals1, List.length_cons, List.length_nil, List.replicate_succ, List.replicate_zero, List.cons_append, List.nil_append, List.getElem?_cons_zero, List.getElem?_cons_succ, List.set_cons_zero, List.set_cons_succ, Nat.reduceSub, Nat.reduceAdd, Nat.zero_add, Bool.not_true, Bool.not_false, Bool.and_self, Bool.and_true, Bool.and_false, e1, z, e2, e3, ratio_q (a := a) (show b ≠ 0 by omega) (sz4 (by omega) b9) (by decide)]
    exact ⟨_, _, rfl, sm_div (by omega) (by omega) (by omega), divInt_nonneg (by omega) (by omega), h3⟩
  · have z : (k != 0) = true := by simpa using hk
    obtain ⟨a, w2, e2, a0, a9, h2⟩ := take_w (many := 4) (k := 3) h1 (by decide) (by unfold Sz; decide) (by decide)
    obtain ⟨b, w3, e3, b0, b9, h3⟩ := take_w (many := 3) (k := 3) h2 (by decide) (by unfold Sz; decide) (by decide)
    simp only [bind_w, bindK_ok, bindK_ex, ret_w, fail_w, eVar_w, varK_v, eC_w, eUn_w, eBin_w, evs0_w, evs1_w, eTup_w, eLst_w, eCall_w, eIf_w, ifE_t, ifE_f, eAnd_w, andE_t, andE_f, eOr_w, orE_t, orE_f, eNot_w, eChain_w, chainM_w, eJs_w, js0, js1, chainK_t, chainK_f, eNew_w, eHand_w, handK_ok, eXf_w, tVal_w, tTru_w, tNot_w, tYes_w, tAnd_w, tOr_w, andT_t, andT_f, orT_t, orT_f, boolOf_w, truth_bl, truth_int, truth_non, truth_lst, truth_tup, truth_frz, add_int, sub_int, neg_int, lt_int, le_int, gt_int, ge_int, isNon_w, notNon_w, is_w, isNot_w, int_w, abs_w, gcd_w, tup_w, tupt_w, list_w, listl_w, len_lst, len_tup, len_frz, un1_w, bin2_w, eq_int, ne_int, eq_pair, ne_pair, ix_lst, ix_frz, ix_tup, ix_hand, itK_v, item0, item1, item2, item3, isi_int_i, isi_int_b, isi_int_n, isi_int_s, isi_int_t, isi_int_l, isi_int_f, isi_int_h, isi_bool_i, isi_bool_b, isi_bool_n, isi_bool_s, isi_bool_t, isi_bool_l, isi_bool_f, isi_bool_h, isi_str_i, isi_str_b, isi_str_n, isi_str_s, isi_str_t, isi_str_l, isi_str_f, isi_str_h, isi_tuple_i, isi_tuple_b, isi_tuple_n, isi_tuple_s, isi_tuple_t, isi_tuple_l, isi_tuple_f, isi_tuple_h, isi_list_i, isi_list_b, isi_list_n, isi_list_s, isi_list_t, isi_list_l, isi_list_f, isi_list_h, isi_dict_i, isi_dict_b, isi_dict_n, isi_dict_s, isi_dict_t, isi_dict_l, isi_dict_f, isi_dict_h, sSeq_w, seqK_nx, seqK_rt, seqK_bk, seqK_ct, seqK_ex, onK_ok, onK_ex, sNext_w, sSet_w, sOwn_w, sFrz_w, frzK_v, sApp_w, sExpr_w, sRet_w, sRetN_w, sIf_w, ifK_t, ifK_f, sBrk_w, sCnt_w, sPar_w, parK_v, sUnp_w, unpK_2, unpK_3, unpK_4, sHSet_w, hsK_0, hsK_1, hsK_2, hsK_3, sRaise_w, sFor_w, iSeq_w, seqOf_lst, seqOf_tup, seqOf_frz, iRng_w, loopK_nx, loopK_ct, loopK_bk, loopK_rt, for0, forN, loopF_nx, loopF_ct, loopF_bk, loopF_rt, loopF_ex, sWhile_w, nLc_w, lcB_ok, lc0, lcN, lcT_t, lcT_f, lcE_v, wipeE0, wipeE1, sTry_w, tryK_nx, tryK_rt, suiteK_nx, suiteK_rt, wipe0, wipe_v, wipe_n, wipe_o, call_w, callK_nx, callK_rt, callK_ex, vals0, vals1, List.length_cons, List.length_nil, List.replicate_succ, List.replicate_zero, List.cons_append, List.nil_append, List.getElem?_cons_zero, List.getElem?_cons_succ, List.set_cons_zero, List.set_cons_succ, Nat.reduceSub, Nat.reduceAdd, Nat.zero_add, Bool.not_true, Bool.not_false, Bool.and_self, Bool.and_true, Bool.and_false, e1, z, e2, e3, ratio_q (a := 1 + a) (show 1 + b ≠ 0 by omega) (sz4 (by omega) (by omega)) (by decide)]
    exact ⟨_, _, rfl, sm_div (by omega) (by omega) (by omega), divInt_nonneg (by omega) (by omega), h3⟩
theorem rq_int (a : Int) : D.tup [.int a, .int 1] = rq (Rat.divInt a 1) := by
  rw [rq, (divInt_one a).1, (divInt_one a).2]; rfl
theorem coord_w (hi : HandI w) : ∃ q w', F__law_coordinate [.hand] w = .ok (rq q) w' ∧ Sm q ∧ HandI w' := by
  obtain ⟨k, w1, e1, k0, k9, h1⟩ := take_w (many := 5) (k := 3) hi (by decide) (by unfold Sz; decide) (by decide)
  unfold F__law_coordinate
  by_cases hk : k = 0
  · subst hk
    obtain ⟨a, w2, e2, a0, a9, h2⟩ := bounded_w h1
    obtain ⟨s, w3, e3, s0, s9, h3⟩ := take_w (many := 2) (k := 2) h2 (by decide) (by unfold Sz; decide) (by decide)
    obtain ⟨b, w4, e4, b0, b9, h4⟩ := bounded_w h3
    have z : ((0 : Int) != 0) = false := by decide
    have two : Sz 2 2 := by unfold Sz; decide
    have ss : Sz 2 s := sz_of s0 (by omega)
    have sd : Sz 2 (1 - 2 * s) := by unfold Sz; omega
    simp only [bind_w, bindK_ok, bindK_ex, ret_w, fail_w, eVar_w, varK_v, eC_w, eUn_w, eBin_w, evs0_w, evs1_w, eTup_w, eLst_w, eCall_w, eIf_w, ifE_t, ifE_f, eAnd_w, andE_t, andE_f, eOr_w, orE_t, orE_f, eNot_w, eChain_w, chainM_w, eJs_w, js0, js1, chainK_t, chainK_f, eNew_w, eHand_w, handK_ok, eXf_w, tVal_w, tTru_w, tNot_w, tYes_w, tAnd_w, tOr_w, andT_t, andT_f, orT_t, orT_f, boolOf_w, truth_bl, truth_int, truth_non, truth_lst, truth_tup, truth_frz, add_int, sub_int, neg_int, lt_int, le_int, gt_int, ge_int, isNon_w, notNon_w, is_w, isNot_w, int_w, abs_w, gcd_w, tup_w, tupt_w, list_w, listl_w, len_lst, len_tup, len_frz, un1_w, bin2_w, eq_int, ne_int, eq_pair, ne_pair, ix_lst, ix_frz, ix_tup, ix_hand, itK_v, item0, item1, item2, item3, isi_int_i, isi_int_b, isi_int_n, isi_int_s, isi_int_t, isi_int_l, isi_int_f, isi_int_h, isi_bool_i, isi_bool_b, isi_bool_n, isi_bool_s, isi_bool_t, isi_bool_l, isi_bool_f, isi_bool_h, isi_str_i, isi_str_b, isi_str_n, isi_str_s, isi_str_t, isi_str_l, isi_str_f, isi_str_h, isi_tuple_i, isi_tuple_b, isi_tuple_n, isi_tuple_s, isi_tuple_t, isi_tuple_l, isi_tuple_f, isi_tuple_h, isi_list_i, isi_list_b, isi_list_n, isi_list_s, isi_list_t, isi_list_l, isi_list_f, isi_list_h, isi_dict_i, isi_dict_b, isi_dict_n, isi_dict_s, isi_dict_t, isi_dict_l, isi_dict_f, isi_dict_h, sSeq_w, seqK_nx, seqK_rt, seqK_bk, seqK_ct, seqK_ex, onK_ok, onK_ex, sNext_w, sSet_w, sOwn_w, sFrz_w, frzK_v, sApp_w, sExpr_w, sRet_w, sRetN_w, sIf_w, ifK_t, ifK_f, sBrk_w, sCnt_w, sPar_w, parK_v, sUnp_w, unpK_2, unpK_3, unpK_4, sHSet_w, hsK_0, hsK_1, hsK_2, hsK_3, sRaise_w, sFor_w, iSeq_w, seqOf_lst, seqOf_tup, seqOf_frz, iRng_w, loopK_nx, loopK_ct, loopK_bk, loopK_rt, for0, forN, loopF_nx, loopF_ct, loopF_bk, loopF_rt, loopF_ex, sWhile_w, nLc_w, lcB_ok, lc0, lcN, lcT_t, lcT_f, lcE_v, wipeE0, wipeE1, sTry_w, tryK_nx, tryK_rt, suiteK_nx, suiteK_rt, wipe0, wipe_v, wipe_n, wipe_o, call_w, callK_nx, callK_rt, callK_ex, vals0, vals1, List.length_cons, List.length_nil, List.replicate_succ, List.replicate_zero, List.cons_append, List.nil_append, List.getElem?_cons_zero, List.getElem?_cons_succ, List.set_cons_zero, List.set_cons_succ, Nat.reduceSub, Nat.reduceAdd, Nat.zero_add, Bool.not_true, Bool.not_false, Bool.and_self, Bool.and_true, Bool.and_false, e1, z, e2, e3, mul_int two ss, mul_int (sz4 (show 0 ≤ a by omega) a9) sd, e4, ratio_q (a := a * (1 - 2 * s)) (show b ≠ 0 by omega) (sz4 (by omega) b9) (by decide)]
    have : s = 0 ∨ s = 1 := by omega
    refine ⟨_, _, rfl, sm_div (by omega) ?_ (by omega), h4⟩
    rcases this with rfl | rfl <;> omega
  · have z : (k != 0) = true := by simpa using hk
    obtain ⟨a, w2, e2, a0, a9, h2⟩ := take_w (many := 9) (k := 4) h1 (by decide) (by unfold Sz; decide) (by decide)
    simp only [bind_w, bindK_ok, bindK_ex, ret_w, fail_w, eVar_w, varK_v, eC_w, eUn_w, eBin_w, evs0_w, evs1_w, eTup_w, eLst_w, eCall_w, eIf_w, ifE_t, ifE_f, eAnd_w, andE_t, andE_f, eOr_w, orE_t, orE_f, eNot_w, eChain_w, chainM_w, eJs_w, js0, js1, chainK_t, chainK_f, eNew_w, eHand_w, handK_ok, eXf_w, tVal_w, tTru_w, tNot_w, tYes_w, tAnd_w, tOr_w, andT_t, andT_f, orT_t, orT_f, boolOf_w, truth_bl, truth_int, truth_non, truth_lst, truth_tup, truth_frz, add_int, sub_int, neg_int, lt_int, le_int, gt_int, ge_int, isNon_w, notNon_w, is_w, isNot_w, int_w, abs_w, gcd_w, tup_w, tupt_w, list_w, listl_w, len_lst, len_tup, len_frz, un1_w, bin2_w, eq_int, ne_int, eq_pair, ne_pair, ix_lst, ix_frz, ix_tup, ix_hand, itK_v, item0, item1, item2, item3, isi_int_i, isi_int_b, isi_int_n, isi_int_s, isi_int_t, isi_int_l, isi_int_f, isi_int_h, isi_bool_i, isi_bool_b, isi_bool_n, isi_bool_s, isi_bool_t, isi_bool_l, isi_bool_f, isi_bool_h, isi_str_i, isi_str_b, isi_str_n, isi_str_s, isi_str_t, isi_str_l, isi_str_f, isi_str_h, isi_tuple_i, isi_tuple_b, isi_tuple_n, isi_tuple_s, isi_tuple_t, isi_tuple_l, isi_tuple_f, isi_tuple_h, isi_list_i, isi_list_b, isi_list_n, isi_list_s, isi_list_t, isi_list_l, isi_list_f, isi_list_h, isi_dict_i, isi_dict_b, isi_dict_n, isi_dict_s, isi_dict_t, isi_dict_l, isi_dict_f, isi_dict_h, sSeq_w, seqK_nx, seqK_rt, seqK_bk, seqK_ct, seqK_ex, onK_ok, onK_ex, sNext_w, sSet_w, sOwn_w, sFrz_w, frzK_v, sApp_w, sExpr_w, sRet_w, sRetN_w, sIf_w, ifK_t, ifK_f, sBrk_w, sCnt_w, sPar_w, parK_v, sUnp_w, unpK_2, unpK_3, unpK_4, sHSet_w, hsK_0, hsK_1, hsK_2, hsK_3, sRaise_w, sFor_w, iSeq_w, seqOf_lst, seqOf_tup, seqOf_frz, iRng_w, loopK_nx, loopK_ct, loopK_bk, loopK_rt, for0, forN, loopF_nx, loopF_ct, loopF_bk, loopF_rt, loopF_ex, sWhile_w, nLc_w, lcB_ok, lc0, lcN, lcT_t, lcT_f, lcE_v, wipeE0, wipeE1, sTry_w, tryK_nx, tryK_rt, suiteK_nx, suiteK_rt, wipe0, wipe_v, wipe_n, wipe_o, call_w, callK_nx, callK_rt, callK_ex, vals0, vals1, List.length_cons, List.length_nil, List.replicate_succ, List.replicate_zero, List.cons_append, List.nil_append, List.getElem?_cons_zero, List.getElem?_cons_succ, List.set_cons_zero, List.set_cons_succ, Nat.reduceSub, Nat.reduceAdd, Nat.zero_add, Bool.not_true, Bool.not_false, Bool.and_self, Bool.and_true, Bool.and_false, e1, z, e2]
    exact ⟨Rat.divInt (a - 4) 1, _, by rw [rq_int], sm_div (by omega) (by omega) (by omega), h2⟩
theorem near_w (hi : HandI w) : ∃ q w', F__law_near [.hand] w = .ok (rq q) w' ∧ Sm q ∧ HandI w' := by
  obtain ⟨a, w2, e2, a0, a9, h2⟩ := take_w (many := 9) (k := 4) hi (by decide) (by unfold Sz; decide) (by decide)
  obtain ⟨k, w1, e1, k0, k9, h1⟩ := take_w (many := 4) (k := 3) h2 (by decide) (by unfold Sz; decide) (by decide)
  unfold F__law_near
  by_cases hk : k = 0
  · subst hk
    have z : ((0 : Int) != 0) = false := by decide
    simp only [bind_w, bindK_ok, bindK_ex, ret_w, fail_w, eVar_w, varK_v, eC_w, eUn_w, eBin_w, evs0_w, evs1_w, eTup_w, eLst_w, eCall_w, eIf_w, ifE_t, ifE_f, eAnd_w, andE_t, andE_f, eOr_w, orE_t, orE_f, eNot_w, eChain_w, chainM_w, eJs_w, js0, js1, chainK_t, chainK_f, eNew_w, eHand_w, handK_ok, eXf_w, tVal_w, tTru_w, tNot_w, tYes_w, tAnd_w, tOr_w, andT_t, andT_f, orT_t, orT_f, boolOf_w, truth_bl, truth_int, truth_non, truth_lst, truth_tup, truth_frz, add_int, sub_int, neg_int, lt_int, le_int, gt_int, ge_int, isNon_w, notNon_w, is_w, isNot_w, int_w, abs_w, gcd_w, tup_w, tupt_w, list_w, listl_w, len_lst, len_tup, len_frz, un1_w, bin2_w, eq_int, ne_int, eq_pair, ne_pair, ix_lst, ix_frz, ix_tup, ix_hand, itK_v, item0, item1, item2, item3, isi_int_i, isi_int_b, isi_int_n, isi_int_s, isi_int_t, isi_int_l, isi_int_f, isi_int_h, isi_bool_i, isi_bool_b, isi_bool_n, isi_bool_s, isi_bool_t, isi_bool_l, isi_bool_f, isi_bool_h, isi_str_i, isi_str_b, isi_str_n, isi_str_s, isi_str_t, isi_str_l, isi_str_f, isi_str_h, isi_tuple_i, isi_tuple_b, isi_tuple_n, isi_tuple_s, isi_tuple_t, isi_tuple_l, isi_tuple_f, isi_tuple_h, isi_list_i, isi_list_b, isi_list_n, isi_list_s, isi_list_t, isi_list_l, isi_list_f, isi_list_h, isi_dict_i, isi_dict_b, isi_dict_n, isi_dict_s, isi_dict_t, isi_dict_l, isi_dict_f, isi_dict_h, sSeq_w, seqK_nx, seqK_rt, seqK_bk, seqK_ct, seqK_ex, onK_ok, onK_ex, sNext_w, sSet_w, sOwn_w, sFrz_w, frzK_v, sApp_w, sExpr_w, sRet_w, sRetN_w, sIf_w, ifK_t, ifK_f, sBrk_w, sCnt_w, sPar_w, parK_v, sUnp_w, unpK_2, unpK_3, unpK_4, sHSet_w, hsK_0, hsK_1, hsK_2, hsK_3, sRaise_w, sFor_w, iSeq_w, seqOf_lst, seqOf_tup, seqOf_frz, iRng_w, loopK_nx, loopK_ct, loopK_bk, loopK_rt, for0, forN, loopF_nx, loopF_ct, loopF_bk, loopF_rt, loopF_ex, sWhile_w, nLc_w, lcB_ok, lc0, lcN, lcT_t, lcT_f, lcE_v, wipeE0, wipeE1, sTry_w, tryK_nx, tryK_rt, suiteK_nx, suiteK_rt, wipe0, wipe_v, wipe_n, wipe_o, call_w, callK_nx, callK_rt, callK_ex, vals0, vals1, List.length_cons, List.length_nil, List.replicate_succ, List.replicate_zero, List.cons_append, List.nil_append, List.getElem?_cons_zero, List.getElem?_cons_succ, List.set_cons_zero, List.set_cons_succ, Nat.reduceSub, Nat.reduceAdd, Nat.zero_add, Bool.not_true, Bool.not_false, Bool.and_self, Bool.and_true, Bool.and_false, e2, e1, z, ratio_q (a := a - 4) (b := 2) (by decide) (sz4 (by omega) (by omega)) (by decide)]
    exact ⟨_, _, rfl, sm_div (by omega) (by omega) (by omega), h1⟩
  · have z : (k != 0) = true := by simpa using hk
    simp only [bind_w, bindK_ok, bindK_ex, ret_w, fail_w, eVar_w, varK_v, eC_w, eUn_w, eBin_w, evs0_w, evs1_w, eTup_w, eLst_w, eCall_w, eIf_w, ifE_t, ifE_f, eAnd_w, andE_t, andE_f, eOr_w, orE_t, orE_f, eNot_w, eChain_w, chainM_w, eJs_w, js0, js1, chainK_t, chainK_f, eNew_w, eHand_w, handK_ok, eXf_w, tVal_w, tTru_w, tNot_w, tYes_w, tAnd_w, tOr_w, andT_t, andT_f, orT_t, orT_f, boolOf_w, truth_bl, truth_int, truth_non, truth_lst, truth_tup, truth_frz, add_int, sub_int, neg_int, lt_int, le_int, gt_int, ge_int, isNon_w, notNon_w, is_w, isNot_w, int_w, abs_w, gcd_w, tup_w, tupt_w, list_w, listl_w, len_lst, len_tup, len_frz, un1_w, bin2_w, eq_int, ne_int, eq_pair, ne_pair, ix_lst, ix_frz, ix_tup, ix_hand, itK_v, item0, item1, item2, item3, isi_int_i, isi_int_b, isi_int_n, isi_int_s, isi_int_t, isi_int_l, isi_int_f, isi_int_h, isi_bool_i, isi_bool_b, isi_bool_n, isi_bool_s, isi_bool_t, isi_bool_l, isi_bool_f, isi_bool_h, isi_str_i, isi_str_b, isi_str_n, isi_str_s, isi_str_t, isi_str_l, isi_str_f, isi_str_h, isi_tuple_i, isi_tuple_b, isi_tuple_n, isi_tuple_s, isi_tuple_t, isi_tuple_l, isi_tuple_f, isi_tuple_h, isi_list_i, isi_list_b, isi_list_n, isi_list_s, isi_list_t, isi_list_l, isi_list_f, isi_list_h, isi_dict_i, isi_dict_b, isi_dict_n, isi_dict_s, isi_dict_t, isi_dict_l, isi_dict_f, isi_dict_h, sSeq_w, seqK_nx, seqK_rt, seqK_bk, seqK_ct, seqK_ex, onK_ok, onK_ex, sNext_w, sSet_w, sOwn_w, sFrz_w, frzK_v, sApp_w, sExpr_w, sRet_w, sRetN_w, sIf_w, ifK_t, ifK_f, sBrk_w, sCnt_w, sPar_w, parK_v, sUnp_w, unpK_2, unpK_3, unpK_4, sHSet_w, hsK_0, hsK_1, hsK_2, hsK_3, sRaise_w, sFor_w, iSeq_w, seqOf_lst, seqOf_tup, seqOf_frz, iRng_w, loopK_nx, loopK_ct, loopK_bk, loopK_rt, for0, forN, loopF_nx, loopF_ct, loopF_bk, loopF_rt, loopF_ex, sWhile_w, nLc_w, lcB_ok, lc0, lcN, lcT_t, lcT_f, lcE_v, wipeE0, wipeE1, sTry_w, tryK_nx, tryK_rt, suiteK_nx, suiteK_rt, wipe0, wipe_v, wipe_n, wipe_o, call_w, callK_nx, callK_rt, callK_ex, vals0, vals1, List.length_cons, List.length_nil, List.replicate_succ, List.replicate_zero, List.cons_append, List.nil_append, List.getElem?_cons_zero, List.getElem?_cons_succ, List.set_cons_zero, List.set_cons_succ, Nat.reduceSub, Nat.reduceAdd, Nat.zero_add, Bool.not_true, Bool.not_false, Bool.and_self, Bool.and_true, Bool.and_false, e2, e1, z, ratio_q (a := a - 4) (b := 1) (by decide) (sz4 (by omega) (by omega)) (by decide)]
    exact ⟨_, _, rfl, sm_div (by omega) (by omega) (by omega), h1⟩
end K07

namespace K07
open PySem FL
variable {w : Wd}
theorem LdOk.sz {l : Ld} (h : LdOk l) : LdSz 40 l := ⟨h.1.sz, h.2.2.1.sz, h.2.2.2.sz⟩
/-! ### the loads are drawn -/
theorem turn_w {g z : Bool} {xs : List D} {s0 s2 s6 s7 s8 s9 t0 t1 t2 t3 t4 t5 t6 t7 t8 t9 v0 : Slot} (hi : HandI w) (hx : xs.length ≤ 100) : ∃ (l : Ld) (w' : Wd) (u7 u8 : Slot), B_law_0 [s0, .val .hand, s2, .val (.bl g), .val (.bl z), .own xs, s6, s7, s8, s9, t0, t1, t2, t3, t4, t5, t6, t7, t8, t9, v0] w = .nx [s0, .val .hand, s2, .val (.bl g), .val (.bl z), .own (xs ++ [ld l]), s6, u7, u8, s9, t0, t1, t2, t3, t4, t5, t6, t7, t8, t9, v0] w' ∧ HandI w' ∧ LdOk l := by
  have lx : xs.length < line := by unfold line; omega
  have weight : ∃ (q : Rat) (w' : Wd), ifE (orT (.ok z w) (tVal (eBin eqD (eCall F__law_take [(eVar 1), (eC (.int 5))]) (eC (.int 0)))) [s0, .val .hand, s2, .val (.bl g), .val (.bl z), .own xs, s6, s7, s8, s9, t0, t1, t2, t3, t4, t5, t6, t7, t8, t9, v0]) (eTup [(eC (.int 0)), (eC (.int 1))]) (eCall F__law_arm [(eVar 1)]) [s0, .val .hand, s2, .val (.bl g), .val (.bl z), .own xs, s6, s7, s8, s9, t0, t1, t2, t3, t4, t5, t6, t7, t8, t9, v0] = .ok (rq q) w' ∧ Sm q ∧ 0 ≤ q.num ∧ HandI w' := by
    have zero : Sm 0 ∧ 0 ≤ (0 : Rat).num := by unfold Sm; decide
    cases z with
    | true =>
      simp only [bind_w, bindK_ok, bindK_ex, ret_w, fail_w, eVar_w, varK_v, eC_w, eUn_w, eBin_w, evs0_w, evs1_w, eTup_w, eLst_w, eCall_w, eIf_w, ifE_t, ifE_f, eAnd_w, andE_t, andE_f, eOr_w, orE_t, orE_f, eNot_w, eChain_w, chainM_w, eJs_w, js0, js1, chainK_t, chainK_f, eNew_w, eHand_w, handK_ok, eXf_w, tVal_w, tTru_w, tNot_w, tYes_w, tAnd_w, tOr_w, andT_t, andT_f, orT_t, orT_f, boolOf_w, truth_bl, truth_int, truth_non, truth_lst, truth_tup, truth_frz, add_int, sub_int, neg_int, lt_int, le_int, gt_int, ge_int, isNon_w, notNon_w, is_w, isNot_w, int_w, abs_w, gcd_w, tup_w, tupt_w, list_w, listl_w, len_lst, len_tup, len_frz, un1_w, bin2_w, eq_int, ne_int, eq_pair, ne_pair, ix_lst, ix_frz, ix_tup, ix_hand, itK_v, item0, item1, item2, item3, isi_int_i, isi_int_b, isi_int_n, isi_int_s, isi_int_t, isi_int_l, isi_int_f, isi_int_h, isi_bool_i, isi_bool_b, isi_bool_n, isi_bool_s, isi_bool_t, isi_bool_l, isi_bool_f, isi_bool_h, isi_str_i, isi_str_b, isi_str_n, isi_str_s, isi_str_t, isi_str_l, isi_str_f, isi_str_h, isi_tuple_i, isi_tuple_b, isi_tuple_n, isi_tuple_s, isi_tuple_t, isi_tuple_l, isi_tuple_f, isi_tuple_h, isi_list_i, isi_list_b, isi_list_n, isi_list_s, isi_list_t, isi_list_l, isi_list_f, isi_list_h, isi_dict_i, isi_dict_b, isi_dict_n, isi_dict_s, isi_dict_t, isi_dict_l, isi_dict_f, isi_dict_h, sSeq_w, seqK_nx, seqK_rt, seqK_bk, seqK_ct, seqK_ex, onK_ok, onK_ex, sNext_w, sSet_w, sOwn_w, sFrz_w, frzK_v, sApp_w, sExpr_w, sRet_w, sRetN_w, sIf_w, ifK_t, ifK_f, sBrk_w, sCnt_w, sPar_w, parK_v, sUnp_w, unpK_2, unpK_3, unpK_4, sHSet_w, hsK_0, hsK_1, hsK_2, hsK_3, sRaise_w, sFor_w, iSeq_w, seqOf_lst, seqOf_tup, seqOf_frz, iRng_w, loopK_nx, loopK_ct, loopK_bk, loopK_rt, for0, forN, loopF_nx, loopF_ct, loopF_bk, loopF_rt, loopF_ex, sWhile_w, nLc_w, lcB_ok, lc0, lcN, lcT_t, lcT_f, lcE_v, wipeE0, wipeE1, sTry_w, tryK_nx, tryK_rt, suiteK_nx, suiteK_rt, wipe0, wipe_v, wipe_n, wipe_o, call_w, callK_nx, callK_rt, callK_ex, vals0, vals1, List.length_cons, List.length_nil, List.replicate_succ, List.replicate_zero, List.cons_append, List.nil_append, List.getElem?_cons_zero, List.getElem?_cons_succ, List.set_cons_zero, List.set_cons_succ, Nat.reduceSub, Nat.reduceAdd, Nat.zero_add, Bool.not_true, Bool.not_false, Bool.and_self, Bool.and_true, Bool.and_false]
      exact ⟨0, w, rfl, zero.1, zero.2, hi⟩
    | false =>
      obtain ⟨k, w1, e1, k0, k9, h1⟩ := take_w (many := 5) (k := 3) hi (by decide) (by unfold Sz; decide) (by decide)
      by_cases hk : k = 0
      · subst hk
        simp only [bind_w, bindK_ok, bindK_ex, ret_w, fail_w, eVar_w, varK_v, eC_w, eUn_w, eBin_w, evs0_w, evs1_w, eTup_w, eLst_w, eCall_w, eIf_w, ifE_t, ifE_f, eAnd_w, andE_t, andE_f, eOr_w, orE_t, orE_f, eNot_w, eChain_w, chainM_w, eJs_w, js0, js1, chainK_t, chainK_f, eNew_w, eHand_w, handK_ok, eXf_w, tVal_w, tTru_w, tNot_w, tYes_w, tAnd_w, tOr_w, andT_t, andT_f, orT_t, orT_f, boolOf_w, truth_bl, truth_int, truth_non, truth_lst, truth_tup, truth_frz, add_int, sub_int, neg_int, lt_int, le_int, gt_int, ge_int, isNon_w, notNon_w, is_w, isNot_w, int_w, abs_w, gcd_w, tup_w, tupt_w, list_w, listl_w, len_lst, len_tup, len_frz, un1_w, bin2_w, eq_int, ne_int, eq_pair, ne_pair, ix_lst, ix_frz, ix_tup, ix_hand, itK_v, item0, item1, item2, item3, isi_int_i, isi_int_b, isi_int_n, isi_int_s, isi_int_t, isi_int_l, isi_int_f, isi_int_h, isi_bool_i, isi_bool_b, isi_bool_n, isi_bool_s, isi_bool_t, isi_bool_l, isi_bool_f, isi_bool_h, isi_str_i, isi_str_b, isi_str_n, isi_str_s, isi_str_t, isi_str_l, isi_str_f, isi_str_h, isi_tuple_i, isi_tuple_b, isi_tuple_n, isi_tuple_s, isi_tuple_t, isi_tuple_l, isi_tuple_f, isi_tuple_h, isi_list_i, isi_list_b, isi_list_n, isi_list_s, isi_list_t, isi_list_l, isi_list_f, isi_list_h, isi_dict_i, isi_dict_b, isi_dict_n, isi_dict_s, isi_dict_t, isi_dict_l, isi_dict_f, isi_dict_h, sSeq_w, seqK_nx, seqK_rt, seqK_bk, seqK_ct, seqK_ex, onK_ok, onK_ex, sNext_w, sSet_w, sOwn_w, sFrz_w, frzK_v, sApp_w, sExpr_w, sRet_w, sRetN_w, sIf_w, ifK_t, ifK_f, sBrk_w, sCnt_w, sPar_w, parK_v, sUnp_w, unpK_2, unpK_3, unpK_4, sHSet_w, hsK_0, hsK_1, hsK_2, hsK_3, sRaise_w, sFor_w, iSeq_w, seqOf_lst, seqOf_tup, seqOf_frz, iRng_w, loopK_nx, loopK_ct, loopK_bk, loopK_rt, for0, forN, loopF_nx, loopF_ct, loopF_bk, loopF_rt, loopF_ex, sWhile_w, nLc_w, lcB_ok, lc0, lcN, lcT_t, lcT_f, lcE_v, wipeE0, wipeE1, sTry_w, tryK_nx, tryK_rt, suiteK_nx, suiteK_rt, wipe0, wipe_v, wipe_n, wipe_o, call_w, callK_nx, callK_rt, callK_ex, vals0, vals1, List.length_cons, List.length_nil, List.replicate_succ, List.replicate_zero, List.cons_append, List.nil_append, List.getElem?_cons_zero, List.getElem?_cons_succ, List.set_cons_zero, List.set_cons_succ, Nat.reduceSub, Nat.reduceAdd, Nat.zero_add, Bool.not_true, Bool.not_false, Bool.and_self, Bool.and_true, Bool.and_false, e1, beq_self_eq_true]
        exact ⟨0, w1, rfl, zero.1, zero.2, h1⟩
      · have z : (k == 0) = false := by simpa using hk
        obtain ⟨q, w2, e2, a1, a2, h2⟩ := arm_w h1
        simp only [bind_w, bindK_ok, bindK_ex, ret_w, fail_w, eVar_w, varK_v, eC_w, eUn_w, eBin_w, evs0_w, evs1_w, eTup_w, eLst_w, eCall_w, eIf_w, ifE_t, ifE_f, eAnd_w, andE_t, andE_f, eOr_w, orE_t, orE_f, eNot_w, eChain_w, chainM_w, eJs_w, js0, js1, chainK_t, chainK_f, eNew_w, eHand_w, handK_ok, eXf_w, tVal_w, tTru_w, tNot_w, tYes_w, tAnd_w, tOr_w, andT_t, andT_f, orT_t, orT_f, boolOf_w, truth_bl, truth_int, truth_non, truth_lst, truth_tup, truth_frz, add_int, sub_int, neg_int, lt_int, le_int, gt_int, ge_int, isNon_w, notNon_w, is_w, isNot_w, int_w, abs_w, gcd_w, tup_w, tupt_w, list_w, listl_w, len_lst, len_tup, len_frz, un1_w, bin2_w, eq_int, ne_int, eq_pair, ne_pair, ix_lst, ix_frz, ix_tup, ix_hand, itK_v, item0, item1, item2, item3, isi_int_i, isi_int_b, isi_int_n, isi_int_s, isi_int_t, isi_int_l, isi_int_f, isi_int_h, isi_bool_i, isi_bool_b, isi_bool_n, isi_bool_s, isi_bool_t, isi_bool_l, isi_bool_f, isi_bool_h, isi_str_i, isi_str_b, isi_str_n, isi_str_s, isi_str_t, isi_str_l, isi_str_f, isi_str_h, isi_tuple_i, isi_tuple_b, isi_tuple_n, isi_tuple_s, isi_tuple_t, isi_tuple_l, isi_tuple_f, isi_tuple_h, isi_list_i, isi_list_b, isi_list_n, isi_list_s, isi_list_t, isi_list_l, isi_list_f, isi_list_h, isi_dict_i, isi_dict_b, isi_dict_n, isi_dict_s, isi_dict_t, isi_dict_l, isi_dict_f, isi_dict_h, sSeq_w, seqK_nx, seqK_rt, seqK_bk, seqK_ct, seqK_ex, onK_ok, onK_ex, sNext_w, sSet_w, sOwn_w, sFrz_w, frzK_v, sApp_w, sExpr_w, sRet_w, sRetN_w, sIf_w, ifK_t, ifK_f, sBrk_w, sCnt_w, sPar_w, parK_v, sUnp_w, unpK_2, unpK_3, unpK_4, sHSet_w, hsK_0, hsK_1, hsK_2, hsK_3, sRaise_w, sFor_w, iSeq_w, seqOf_lst, seqOf_tup, seqOf_frz, iRng_w, loopK_nx, loopK_ct, loopK_bk, loopK_rt, for0, forN, loopF_nx, loopF_ct, loopF_bk, loopF_rt, loopF_ex, sWhile_w, nLc_w, lcB_ok, lc0, lcN, lcT_t, lcT_f, lcE_v, wipeE0, wipeE1, sTry_w, tryK_nx, tryK_rt, suiteK_nx, suiteK_rt, wipe0, wipe_v, wipe_n, wipe_o, call_w, callK_nx, callK_rt, callK_ex, vals0, vals1, List.length_cons, List.length_nil, List.replicate_succ, List.replicate_zero, List.cons_append, List.nil_append, List.getElem?_cons_zero, List.getElem?_cons_succ, List.set_cons_zero, List.set_cons_succ, Nat.reduceSub, Nat.reduceAdd, Nat.zero_add, Bool.not_true, Bool.not_false, Bool.and_self, Bool.and_true, Bool.and_false, e1, z, e2]
        exact ⟨q, w2, rfl, a1, a2, h2⟩
  obtain ⟨q, w1, e1, a1, a2, h1⟩ := weight
  have place : ∀ s7, ∃ (a b : Rat) (w' : Wd), ifE (.ok g w1) (eTup [(eCall F__law_coordinate [(eVar 1)]), (eCall F__law_coordinate [(eVar 1)])]) (eTup [(eCall F__law_near [(eVar 1)]), (eCall F__law_near [(eVar 1)])]) [s0, .val .hand, s2, .val (.bl g), .val (.bl z), .own xs, s6, s7, s8, s9, t0, t1, t2, t3, t4, t5, t6, t7, t8, t9, v0] = .ok (.tup [rq a, rq b]) w' ∧ Sm a ∧ Sm b ∧ HandI w' := by
    intro s7
    cases g with
    | true =>
      obtain ⟨a, w2, e2, b2, h2⟩ := coord_w h1
      obtain ⟨b, w3, e3, b3, h3⟩ := coord_w h2
      simp only [bind_w, bindK_ok, bindK_ex, ret_w, fail_w, eVar_w, varK_v, eC_w, eUn_w, eBin_w, evs0_w, evs1_w, eTup_w, eLst_w, eCall_w, eIf_w, ifE_t, ifE_f, eAnd_w, andE_t, andE_f, eOr_w, orE_t, orE_f, eNot_w, eChain_w, chainM_w, eJs_w, js0, js1, chainK_t, chainK_f, eNew_w, eHand_w, handK_ok, eXf_w, tVal_w, tTru_w, tNot_w, tYes_w, tAnd_w, tOr_w, andT_t, andT_f, orT_t, orT_f, boolOf_w, truth_bl, truth_int, truth_non, truth_lst, truth_tup, truth_frz, add_int, sub_int, neg_int, lt_int, le_int, gt_int, ge_int, isNon_w, notNon_w, is_w, isNot_w, int_w, abs_w, gcd_w, tup_w, tupt_w, list_w, listl_w, len_lst, len_tup, len_frz, un1_w, bin2_w, eq_int, ne_int, eq_pair, ne_pair, ix_lst, ix_frz, ix_tup, ix_hand, itK_v, item0, item1, item2, item3, isi_int_i, isi_int_b, isi_int_n, isi_int_s, isi_int_t, isi_int_l, isi_int_f, isi_int_h, isi_bool_i, isi_bool_b, isi_bool_n, isi_bool_s, isi_bool_t, isi_bool_l, isi_bool_f, isi_bool_h, isi_str_i, isi_str_b, isi_str_n, isi_str_s, isi_str_t, isi_str_l, isi_str_f, isi_str_h, isi_tuple_i, isi_tuple_b, isi_tuple_n, isi_tuple_s, isi_tuple_t, isi_tuple_l, isi_tuple_f, isi_tuple_h, isi_list_i, isi_list_b, isi_list_n, isi_list_s, isi_list_t, isi_list_l, isi_list_f, isi_list_h, isi_dict_i, isi_dict_b, isi_dict_n, isi_dict_s, isi_dict_t, isi_dict_l, isi_dict_f, isi_dict_h, sSeq_w, seqK_nx, seqK_rt, seqK_bk, seqK_ct, seqK_ex, onK_ok, onK_ex, sNext_w, sSet_w, sOwn_w, sFrz_w, frzK_v, sApp_w, sExpr_w, sRet_w, sRetN_w, sIf_w, ifK_t, ifK_f, sBrk_w, sCnt_w, sPar_w, parK_v, sUnp_w, unpK_2, unpK_3, unpK_4, sHSet_w, hsK_0, hsK_1, hsK_2, hsK_3, sRaise_w, sFor_w, iSeq_w, seqOf_lst, seqOf_tup, seqOf_frz, iRng_w, loopK_nx, loopK_ct, loopK_bk, loopK_rt, for0, forN, loopF_nx, loopF_ct, loopF_bk, loopF_rt, loopF_ex, sWhile_w, nLc_w, lcB_ok, lc0, lcN, lcT_t, lcT_f, lcE_v, wipeE0, wipeE1, sTry_w, tryK_nx, tryK_rt, suiteK_nx, suiteK_rt, wipe0, wipe_v, wipe_n, wipe_o, call_w, callK_nx, callK_rt, callK_ex, vals0, vals1, List.length_cons, List.length_nil, List.replicate_succ, List.replicate_zero, List.cons_append, List.nil_append, List.getElem?_cons_zero, List.getElem?_cons_succ, List.set_cons_zero, List.set_cons_succ, Nat.reduceSub, Nat.reduceAdd, Nat.zero_add, Bool.not_true, Bool.not_false, Bool.and_self, Bool.and_true, Bool.and_false, e2, e3]
      exact ⟨a, b, w3, rfl, b2, b3, h3⟩
    | false =>
      obtain ⟨a, w2, e2, b2, h2⟩ := near_w h1
      obtain ⟨b, w3, e3, b3, h3⟩ := near_w h2
      simp only [bind_w, bindK_ok, bindK_ex, ret_w, fail_w, eVar_w, varK_v, eC_w, eUn_w, eBin_w, evs0_w, evs1_w, eTup_w, eLst_w, eCall_w, eIf_w, ifE_t, ifE_f, eAnd_w, andE_t, andE_f, eOr_w, orE_t, orE_f, eNot_w, eChain_w, chainM_w, eJs_w, js0, js1, chainK_t, chainK_f, eNew_w, eHand_w, handK_ok, eXf_w, tVal_w, tTru_w, tNot_w, tYes_w, tAnd_w, tOr_w, andT_t, andT_f, orT_t, orT_f, boolOf_w, truth_bl, truth_int, truth_non, truth_lst, truth_tup, truth_frz, add_int, sub_int, neg_int, lt_int, le_int, gt_int, ge_int, isNon_w, notNon_w, is_w, isNot_w, int_w, abs_w, gcd_w, tup_w, tupt_w, list_w, listl_w, len_lst, len_tup, len_frz, un1_w, bin2_w, eq_int, ne_int, eq_pair, ne_pair, ix_lst, ix_frz, ix_tup, ix_hand, itK_v, item0, item1, item2, item3, isi_int_i, isi_int_b, isi_int_n, isi_int_s, isi_int_t, isi_int_l, isi_int_f, isi_int_h, isi_bool_i, isi_bool_b, isi_bool_n, isi_bool_s, isi_bool_t, isi_bool_l, isi_bool_f, isi_bool_h, isi_str_i, isi_str_b, isi_str_n, isi_str_s, isi_str_t, isi_str_l, isi_str_f, isi_str_h, isi_tuple_i, isi_tuple_b, isi_tuple_n, isi_tuple_s, isi_tuple_t, isi_tuple_l, isi_tuple_f, isi_tuple_h, isi_list_i, isi_list_b, isi_list_n, isi_list_s, isi_list_t, isi_list_l, isi_list_f, isi_list_h, isi_dict_i, isi_dict_b, isi_dict_n, isi_dict_s, isi_dict_t, isi_dict_l, isi_dict_f, isi_dict_h, sSeq_w, seqK_nx, seqK_rt, seqK_bk, seqK_ct, seqK_ex, onK_ok, onK_ex, sNext_w, sSet_w, sOwn_w, sFrz_w, frzK_v, sApp_w, sExpr_w, sRet_w, sRetN_w, sIf_w, ifK_t, ifK_f, sBrk_w, sCnt_w, sPar_w, parK_v, sUnp_w, unpK_2, unpK_3, unpK_4, sHSet_w, hsK_0, hsK_1, hsK_2, hsK_3, sRaise_w, sFor_w, iSeq_w, seqOf_lst, seqOf_tup, seqOf_frz, iRng_w, loopK_nx, loopK_ct, loopK_bk, loopK_rt, for0, forN, loopF_nx, loopF_ct, loopF_bk, loopF_rt, loopF_ex, sWhile_w, nLc_w, lcB_ok, lc0, lcN, lcT_t, lcT_f, lcE_v, wipeE0, wipeE1, sTry_w, tryK_nx, tryK_rt, suiteK_nx, suiteK_rt, wipe0, wipe_v, wipe_n, wipe_o, call_w, callK_nx, callK_rt, callK_ex, vals0, vals1, List.length_cons, List.length_nil, List.replicate_succ, List.replicate_zero, List.cons_append, List.nil_append, List.getElem?_cons_zero, List.getElem?_cons_succ, List.set_cons_zero, List.set_cons_succ, Nat.reduceSub, Nat.reduceAdd, Nat.zero_add, Bool.not_true, Bool.not_false, Bool.and_self, Bool.and_true, Bool.and_false, e2, e3]
      exact ⟨a, b, w3, rfl, b2, b3, h3⟩
  obtain ⟨a, b, w2, e2, b2, b3, h2⟩ := place (.val (rq q))
  refine ⟨⟨q, a, b⟩, w2, .val (rq q), .val (.tup [rq a, rq b]), ?_, h2, a1, a2, b2, b3⟩
  rw [B_law_0_w]
  simp only [bind_w, bindK_ok, bindK_ex, ret_w, fail_w, eVar_w, varK_v, eC_w, eUn_w, eBin_w, evs0_w, evs1_w, eTup_w, eLst_w, eCall_w, eIf_w, ifE_t, ifE_f, eAnd_w, andE_t, andE_f, eOr_w, orE_t, orE_f, eNot_w, eChain_w, chainM_w, eJs_w, js0, js1, chainK_t, chainK_f, eNew_w, eHand_w, handK_ok, eXf_w, tVal_w, tTru_w, tNot_w, tYes_w, tAnd_w, tOr_w, andT_t, andT_f, orT_t, orT_f, boolOf_w, truth_bl, truth_int, truth_non, truth_lst, truth_tup, truth_frz, add_int, sub_int, neg_int, lt_int, le_int, gt_int, ge_int, isNon_w, notNon_w, is_w, isNot_w, int_w, abs_w, gcd_w, tup_w, tupt_w, list_w, listl_w, len_lst, len_tup, len_frz, un1_w, bin2_w, eq_int, ne_int, eq_pair, ne_pair, ix_lst, ix_frz, ix_tup, ix_hand, itK_v, item0, item1, item2, item3, isi_int_i, isi_int_b, isi_int_n, isi_int_s, isi_int_t, isi_int_l, isi_int_f, isi_int_h, isi_bool_i, isi_bool_b, isi_bool_n, isi_bool_s, isi_bool_t, isi_bool_l, isi_bool_f, isi_bool_h, isi_str_i, isi_str_b, isi_str_n, isi_str_s, isi_str_t, isi_str_l, isi_str_f, isi_str_h, isi_tuple_i, isi_tuple_b, isi_tuple_n, isi_tuple_s, isi_tuple_t, isi_tuple_l, isi_tuple_f, isi_tuple_h, isi_list_i, isi_list_b, isi_list_n, isi_list_s, isi_list_t, isi_list_l, isi_list_f, isi_list_h, isi_dict_i, isi_dict_b, isi_dict_n, isi_dict_s, isi_dict_t, isi_dict_l, isi_dict_f, isi_dict_h, sSeq_w, seqK_nx, seqK_rt, seqK_bk, seqK_ct, seqK_ex, onK_ok, onK_ex, sNext_w, sSet_w, sOwn_w, sFrz_w, frzK_v, sApp_w, sExpr_w, sRet_w, sRetN_w, sIf_w, ifK_t, ifK_f, sBrk_w, sCnt_w, sPar_w, parK_v, sUnp_w, unpK_2, unpK_3, unpK_4, sHSet_w, hsK_0, hsK_1, hsK_2, hsK_3, sRaise_w, sFor_w, iSeq_w, seqOf_lst, seqOf_tup, seqOf_frz, iRng_w, loopK_nx, loopK_ct, loopK_bk, loopK_rt, for0, forN, loopF_nx, loopF_ct, loopF_bk, loopF_rt, loopF_ex, sWhile_w, nLc_w, lcB_ok, lc0, lcN, lcT_t, lcT_f, lcE_v, wipeE0, wipeE1, sTry_w, tryK_nx, tryK_rt, suiteK_nx, suiteK_rt, wipe0, wipe_v, wipe_n, wipe_o, call_w, callK_nx, callK_rt, callK_ex, vals0, vals1, List.length_cons, List.length_nil, List.replicate_succ, List.replicate_zero, List.cons_append, List.nil_append, List.getElem?_cons_zero, List.getElem?_cons_succ, List.set_cons_zero, List.set_cons_succ, Nat.reduceSub, Nat.reduceAdd, Nat.zero_add, Bool.not_true, Bool.not_false, Bool.and_self, Bool.and_true, Bool.and_false, e1, e2, appK_v 5 _ lx]
theorem turnsL {g z : Bool} {s0 s2 s9 t0 t1 t2 t3 t4 t5 t6 t7 t8 t9 v0 : Slot} : ∀ (m n : Nat) (ls : List Ld) (s6 s7 s8 : Slot) (w : Wd), HandI w → (∀ l ∈ ls, LdOk l) → ls.length + m ≤ 100 → ∃ (ls' : List Ld) (w' : Wd) (u6 u7 u8 : Slot), forL (gN 6) B_law_0 (rng n m) [s0, .val .hand, s2, .val (.bl g), .val (.bl z), .own (ls.map ld), s6, s7, s8, s9, t0, t1, t2, t3, t4, t5, t6, t7, t8, t9, v0] w = .nx [s0, .val .hand, s2, .val (.bl g), .val (.bl z), .own (ls'.map ld), u6, u7, u8, s9, t0, t1, t2, t3, t4, t5, t6, t7, t8, t9, v0] w' ∧ HandI w' ∧ (∀ l ∈ ls', LdOk l) ∧ ls'.length = ls.length + m
  | 0, n, ls, s6, s7, s8, w, hi, h, hl => ⟨ls, w, s6, s7, s8, rfl, hi, h, rfl⟩
  | m + 1, n, ls, s6, s7, s8, w, hi, h, hl => by
    obtain ⟨l, w1, u7, u8, e1, h1, o1⟩ := turn_w (g := g) (z := z) (xs := ls.map ld) (s0 := s0) (s2 := s2) (s6 := .val (.int n)) (s7 := s7) (s8 := s8) (s9 := s9) (t0 := t0) (t1 := t1) (t2 := t2) (t3 := t3) (t4 := t4) (t5 := t5) (t6 := t6) (t7 := t7) (t8 := t8) (t9 := t9) (v0 := v0) hi (by rw [List.length_map]; omega)
    obtain ⟨ls', w2, y6, y7, y8, e2, h2, o2, n2⟩ := turnsL m (n + 1) (ls ++ [l]) (.val (.int n)) u7 u8 w1 h1 (fun x hx => by
      rcases List.mem_append.mp hx with hx | hx
      · exact h x hx
      · rw [List.mem_singleton.mp hx]; exact o1) (by rw [List.length_append, List.length_singleton]; omega)
    refine ⟨ls', w2, y6, y7, y8, ?_, h2, o2, by rw [n2, List.length_append, List.length_singleton]; omega⟩
    show forL (gN 6) B_law_0 (.int (n : Int) :: rng (n + 1) m) _ w = _
    simp only [bind_w, bindK_ok, bindK_ex, ret_w, fail_w, eVar_w, varK_v, eC_w, eUn_w, eBin_w, evs0_w, evs1_w, eTup_w, eLst_w, eCall_w, eIf_w, ifE_t, ifE_f, eAnd_w, andE_t, andE_f, eOr_w, orE_t, orE_f, eNot_w, eChain_w, chainM_w, eJs_w, js0, js1, chainK_t, chainK_f, eNew_w, eHand_w, handK_ok, eXf_w, tVal_w, tTru_w, tNot_w, tYes_w, tAnd_w, tOr_w, andT_t, andT_f, orT_t, orT_f, boolOf_w, truth_bl, truth_int, truth_non, truth_lst, truth_tup, truth_frz, add_int, sub_int, neg_int, lt_int, le_int, gt_int, ge_int, isNon_w, notNon_w, is_w, isNot_w, int_w, abs_w, gcd_w, tup_w, tupt_w, list_w, listl_w, len_lst, len_tup, len_frz, un1_w, bin2_w, eq_int, ne_int, eq_pair, ne_pair, ix_lst, ix_frz, ix_tup, ix_hand, itK_v, item0, item1, item2, item3, isi_int_i, isi_int_b, isi_int_n, isi_int_s, isi_int_t, isi_int_l, isi_int_f, isi_int_h, isi_bool_i, isi_bool_b, isi_bool_n, isi_bool_s, isi_bool_t, isi_bool_l, isi_bool_f, isi_bool_h, isi_str_i, isi_str_b, isi_str_n, isi_str_s, isi_str_t, isi_str_l, isi_str_f, isi_str_h, isi_tuple_i, isi_tuple_b, isi_tuple_n, isi_tuple_s, isi_tuple_t, isi_tuple_l, isi_tuple_f, isi_tuple_h, isi_list_i, isi_list_b, isi_list_n, isi_list_s, isi_list_t, isi_list_l, isi_list_f, isi_list_h, isi_dict_i, isi_dict_b, isi_dict_n, isi_dict_s, isi_dict_t, isi_dict_l, isi_dict_f, isi_dict_h, sSeq_w, seqK_nx, seqK_rt, seqK_bk, seqK_ct, seqK_ex, onK_ok, onK_ex, sNext_w, sSet_w, sOwn_w, sFrz_w, frzK_v, sApp_w, sExpr_w, sRet_w, sRetN_w, sIf_w, ifK_t, ifK_f, sBrk_w, sCnt_w, sPar_w, parK_v, sUnp_w, unpK_2, unpK_3, unpK_4, sHSet_w, hsK_0, hsK_1, hsK_2, hsK_3, sRaise_w, sFor_w, iSeq_w, seqOf_lst, seqOf_tup, seqOf_frz, iRng_w, loopK_nx, loopK_ct, loopK_bk, loopK_rt, for0, forN, loopF_nx, loopF_ct, loopF_bk, loopF_rt, loopF_ex, sWhile_w, nLc_w, lcB_ok, lc0, lcN, lcT_t, lcT_f, lcE_v, wipeE0, wipeE1, sTry_w, tryK_nx, tryK_rt, suiteK_nx, suiteK_rt, wipe0, wipe_v, wipe_n, wipe_o, call_w, callK_nx, callK_rt, callK_ex, vals0, vals1, List.length_cons, List.length_nil, List.replicate_succ, List.replicate_zero, List.cons_append, List.nil_append, List.getElem?_cons_zero, List.getElem?_cons_succ, List.set_cons_zero, List.set_cons_succ, Nat.reduceSub, Nat.reduceAdd, Nat.zero_add, Bool.not_true, Bool.not_false, Bool.and_self, Bool.and_true, Bool.and_false, e1]
    rw [← e2, List.map_append]
    rfl
/-! ### the text of what is given -/
theorem shown_i {i : Int} (h : Sz 40 i) : (D.int i).py.shown.length ≤ 14 := toStr_len (n := 13) h (by decide) (by decide)
theorem sum2 (a b : Str) : ([a, b].map (·.length)).sum = a.length + b.length := by simp
theorem shown_q {q : Rat} (h : SzQ 40 q) : (rq q).py.shown.length ≤ 35 := by
  have := PySem.tupleText_len_le [(D.int q.num).py.shown, (D.int (q.den : Int)).py.shown]
  rw [sum2] at this
  have a := shown_i h.1
  have b := shown_i h.2
  show (tupleText [(D.int q.num).py.shown, (D.int (q.den : Int)).py.shown]).length ≤ 35
  simp only [List.length_cons, List.length_nil] at this
  omega
theorem shown_g {l : Ld} (h : LdOk l) : (gv l).py.shown.length ≤ 119 := by
  have x := PySem.listText_len_le [(rq l.a).py.shown, (rq l.b).py.shown]
  have y := PySem.listText_len_le [(rq l.w).py.shown, listText [(rq l.a).py.shown, (rq l.b).py.shown]]
  rw [sum2] at x y
  have a := shown_q h.sz.1
  have b := shown_q h.sz.2.1
  have c := shown_q h.sz.2.2
  show (listText [(rq l.w).py.shown, listText [(rq l.a).py.shown, (rq l.b).py.shown]]).length ≤ 119
  simp only [List.length_cons, List.length_nil] at x y
  omega
theorem able_i {i : Int} (h : Sz 40 i) : (D.int i).py.showable = true := by
  have := h.log
  show decide (i.natAbs.log2 < 1920) = true
  rw [decide_eq_true]
  omega
theorem able_q {q : Rat} (h : SzQ 40 q) : (rq q).py.showable = true := by
  show ((D.int q.num).py.showable && ((D.int (q.den : Int)).py.showable && true)) = true
  rw [able_i h.1, able_i h.2]; rfl
theorem able_g {l : Ld} (h : LdOk l) : (gv l).py.showable = true := by
  show ((rq l.w).py.showable && ((((rq l.a).py.showable && ((rq l.b).py.showable && true))) && true)) = true
  rw [able_q h.sz.1, able_q h.sz.2.1, able_q h.sz.2.2]; rfl
theorem pyL_map : ∀ ds : List D, D.pyL ds = ds.map D.py
  | [] => by simp [D.pyL]
  | d :: ds => by simp only [D.pyL, List.map_cons, pyL_map ds]
theorem shownAll_map : ∀ ds : List PyData, PyData.shownAll ds = ds.map PyData.shown
  | [] => by simp [PyData.shownAll]
  | d :: ds => by simp only [PyData.shownAll, List.map_cons, shownAll_map ds]
theorem showableAll_all : ∀ ds : List PyData, PyData.showableAll ds = ds.all PyData.showable
  | [] => by simp [PyData.showableAll]
  | d :: ds => by simp only [PyData.showableAll, List.all_cons, showableAll_all ds]
theorem sum_le {α : Type} {f : α → Nat} {b : Nat} : ∀ xs : List α, (∀ x ∈ xs, f x ≤ b) → (xs.map f).sum ≤ xs.length * b
  | [], _ => by simp
  | x :: xs, h => by
    have a := h x (List.mem_cons_self ..)
    have r := sum_le xs fun y hy => h y (List.mem_cons_of_mem _ hy)
    rw [List.map_cons, List.sum_cons, List.length_cons, Nat.add_mul]
    omega
theorem flat_given (ls : List Ld) : D.flat 60 (.lst (ls.map gv)) = true := flatL_map (n := 59) ls fun l _ => rfl
theorem flat_lds (ls : List Ld) : D.flat 60 (.tup (ls.map ld)) = true := flatL_map (n := 59) ls fun l _ => rfl
theorem list_len {ts : List Str} {b n : Nat} (h : ∀ t ∈ ts, t.length ≤ b) (hl : ts.length ≤ n) : (listText ts).length ≤ n * b + 2 * n + 3 := by
  have x := PySem.listText_len_le ts
  have y := sum_le (f := fun t : Str => t.length) ts h
  have z : ts.length * b ≤ n * b := Nat.mul_le_mul_right _ hl
  generalize (listText ts).length = u at x ⊢
  generalize (ts.map fun t : Str => t.length).sum = v at x y
  omega
theorem py_list (ds : List D) : (D.lst ds).py.shown = listText (ds.map fun d => d.py.shown) := by
  have e : (D.lst ds).py = .list (ds.map D.py) := by
    simp only [D.py, pyL_map]
  rw [e]
  simp only [PyData.shown, shownAll_map, List.map_map]
  rfl
theorem able_list {ds : List D} (h : ∀ d ∈ ds, d.py.showable = true) : (D.lst ds).py.showable = true := by
  have e : (D.lst ds).py = .list (ds.map D.py) := by
    simp only [D.py, pyL_map]
  rw [e]
  simp only [PyData.showable, showableAll_all, List.all_map, List.all_eq_true]
  exact h
theorem repr_w {ls : List Ld} (h : ∀ l ∈ ls, LdOk l) (hl : ls.length ≤ 8) : ∀ w, reprL [.lst (ls.map gv)] w = .ok (.str (D.lst (ls.map gv)).py.shown) w := by
  refine fun w => reprL_l (flat_given ls) (able_list fun d hd => ?_) ?_
  · obtain ⟨l, hm, rfl⟩ := List.mem_map.mp hd
    exact able_g (h l hm)
  · rw [py_list, sizeLine_eq]
    refine Nat.le_trans (list_len (b := 119) (n := 8) (fun t ht => ?_) (by rw [List.length_map, List.length_map]; exact hl)) (by decide)
    obtain ⟨d, hd, rfl⟩ := List.mem_map.mp ht
    obtain ⟨l, hm, rfl⟩ := List.mem_map.mp hd
    exact shown_g (h l hm)
end K07

namespace K07
open PySem FL
variable {w : Wd}
/-! ### loads with wrong ones among them -/
abbrev Mk := Str × D
abbrev mk (m : Mk) : D := .lst [.str m.1, m.2]
structure MkOk (m : Mk) : Prop where
  nh : noHand m.2 = true
  ok : okS m.1
  ln : m.1.length ≤ 100
  is : (m.1.length = 0 ∧ ∃ l, GoodE m.2 l) ∨ (m.1.length ≠ 0 ∧ BadE m.2 m.1)
def fb : Nat → List Mk → Option (Nat × Str)
  | _, [] => none
  | n, m :: ms => if m.1.length = 0 then fb (n + 1) ms else some (n, m.1)
theorem chkM : ∀ (ms : List Mk) (n : Nat) (acc : List D) (s0 s2 s3 : Slot), (∀ m ∈ ms, MkOk m) → acc.length + ms.length < line →
    (fb n ms = none → ∃ (ds : List D) (s2' s3' : Slot), forL (gT [2, 3]) B_check_loads_0 (enumAt n (ms.map fun m => m.2)) [s0, .own acc, s2, s3] w = .nx [s0, .own ds, s2', s3'] w) ∧
    (∀ i s, fb n ms = some (i, s) → ∃ (ds : List D) (s2' s3' : Slot), forL (gT [2, 3]) B_check_loads_0 (enumAt n (ms.map fun m => m.2)) [s0, .own acc, s2, s3] w = .ex 2 ["index", "what"] [.int (i : Int), .str s] [s0, .own ds, s2', s3'] w)
  | [], n, acc, s0, s2, s3, _, _ => ⟨fun _ => ⟨acc, s2, s3, rfl⟩, fun i s e => by simp [fb] at e⟩
  | m :: ms, n, acc, s0, s2, s3, h, hl => by
    rw [List.length_cons] at hl
    have hm := h m (List.mem_cons_self ..)
    have step : forL (gT [2, 3]) B_check_loads_0 (enumAt n ((m :: ms).map fun m => m.2)) [s0, .own acc, s2, s3] w = loopF (B_check_loads_0 [s0, .own acc, .val (.int n), .val m.2] w) (gT [2, 3]) B_check_loads_0 (enumAt (n + 1) (ms.map fun m => m.2)) := by
      rw [List.map_cons]
      show forL _ _ (.tup [.int (n : Int), m.2] :: enumAt (n + 1) (ms.map fun m => m.2)) _ _ = _
      rw [forT2]
      rfl
    rw [step]
    rcases hm.is with ⟨z, l, g⟩ | ⟨z, b⟩
    · have ih := chkM ms (n + 1) (acc ++ [ld l]) s0 (.val (.int n)) (.val m.2) (fun y hy => h y (List.mem_cons_of_mem _ hy)) (by rw [List.length_append, List.length_cons, List.length_nil]; omega)
      rw [g n acc s0 w (by omega), loopF_nx]
      simp only [fb, if_pos z]
      exact ih
    · rw [b n acc s0 w, loopF_ex]
      simp only [fb, if_neg z]
      refine ⟨fun e => (nomatch e), fun i s e => ?_⟩
      simp only [Option.some.injEq, Prod.mk.injEq] at e
      obtain ⟨rfl, rfl⟩ := e
      exact ⟨acc, _, _, rfl⟩
theorem try_many {c : List D → D} (hc : c = D.lst ∨ c = D.tup) {ds : List D} (hl : 8 < ds.length) : F__law_try [c ds] w = .ok (.lst [.int 0, .str "many"]) w := by
  have m : (2 : Nat) ∈ [2] := by simp
  have l8 : decide ((8 : Int) < (ds.length : Int)) = true := decide_eq_true (by omega)
  have x1 : ∀ w : Wd, xfK (some (.exc 2 ["index", "what"] [.int 0, .str "many"])) "index" w = .ok (.int 0) w := fun w => xfK_v 2 _ _ _ rfl
  have x2 : ∀ w : Wd, xfK (some (.exc 2 ["index", "what"] [.int 0, .str "many"])) "what" w = .ok (.str "many") w := fun w => xfK_v 2 _ _ _ rfl
  unfold F__law_try F_check_loads
  rcases hc with rfl | rfl
  · simp only [bind_w, bindK_ok, bindK_ex, ret_w, fail_w, eVar_w, varK_v, eC_w, eUn_w, eBin_w, evs0_w, evs1_w, eTup_w, eLst_w, eCall_w, eIf_w, ifE_t, ifE_f, eAnd_w, andE_t, andE_f, eOr_w, orE_t, orE_f, eNot_w, eChain_w, chainM_w, eJs_w, js0, js1, chainK_t, chainK_f, eNew_w, eHand_w, handK_ok, eXf_w, tVal_w, tTru_w, tNot_w, tYes_w, tAnd_w, tOr_w, andT_t, andT_f, orT_t, orT_f, boolOf_w, truth_bl, truth_int, truth_non, truth_lst, truth_tup, truth_frz, add_int, sub_int, neg_int, lt_int, le_int, gt_int, ge_int, isNon_w, notNon_w, is_w, isNot_w, int_w, abs_w, gcd_w, tup_w, tupt_w, list_w, listl_w, len_lst, len_tup, len_frz, un1_w, bin2_w, eq_int, ne_int, eq_pair, ne_pair, ix_lst, ix_frz, ix_tup, ix_hand, itK_v, item0, item1, item2, item3, isi_int_i, isi_int_b, isi_int_n, isi_int_s, isi_int_t, isi_int_l, isi_int_f, isi_int_h, isi_bool_i, isi_bool_b, isi_bool_n, isi_bool_s, isi_bool_t, isi_bool_l, isi_bool_f, isi_bool_h, isi_str_i, isi_str_b, isi_str_n, isi_str_s, isi_str_t, isi_str_l, isi_str_f, isi_str_h, isi_tuple_i, isi_tuple_b, isi_tuple_n, isi_tuple_s, isi_tuple_t, isi_tuple_l, isi_tuple_f, isi_tuple_h, isi_list_i, isi_list_b, isi_list_n, isi_list_s, isi_list_t, isi_list_l, isi_list_f, isi_list_h, isi_dict_i, isi_dict_b, isi_dict_n, isi_dict_s, isi_dict_t, isi_dict_l, isi_dict_f, isi_dict_h, sSeq_w, seqK_nx, seqK_rt, seqK_bk, seqK_ct, seqK_ex, onK_ok, onK_ex, sNext_w, sSet_w, sOwn_w, sFrz_w, frzK_v, sApp_w, sExpr_w, sRet_w, sRetN_w, sIf_w, ifK_t, ifK_f, sBrk_w, sCnt_w, sPar_w, parK_v, sUnp_w, unpK_2, unpK_3, unpK_4, sHSet_w, hsK_0, hsK_1, hsK_2, hsK_3, sRaise_w, sFor_w, iSeq_w, seqOf_lst, seqOf_tup, seqOf_frz, iRng_w, loopK_nx, loopK_ct, loopK_bk, loopK_rt, for0, forN, loopF_nx, loopF_ct, loopF_bk, loopF_rt, loopF_ex, sWhile_w, nLc_w, lcB_ok, lc0, lcN, lcT_t, lcT_f, lcE_v, wipeE0, wipeE1, sTry_w, tryK_nx, tryK_rt, suiteK_nx, suiteK_rt, wipe0, wipe_v, wipe_n, wipe_o, call_w, callK_nx, callK_rt, callK_ex, vals0, vals1, List.length_cons, List.length_nil, List.replicate_succ, List.replicate_zero, List.cons_append, List.nil_append, List.getElem?_cons_zero, List.getElem?_cons_succ, List.set_cons_zero, List.set_cons_succ, Nat.reduceSub, Nat.reduceAdd, Nat.zero_add, Bool.not_true, Bool.not_false, Bool.and_self, Bool.and_true, Bool.and_false, isi_lt_l, l8, tryK_ex _ _ _ _ _ m, x1, x2]
  · simp only [bind_w, bindK_ok, bindK_ex, ret_w, fail_w, eVar_w, varK_v, eC_w, eUn_w, eBin_w, evs0_w, evs1_w, eTup_w, eLst_w, eCall_w, eIf_w, ifE_t, ifE_f, eAnd_w, andE_t, andE_f, eOr_w, orE_t, orE_f, eNot_w, eChain_w, chainM_w, eJs_w, js0, js1, chainK_t, chainK_f, eNew_w, eHand_w, handK_ok, eXf_w, tVal_w, tTru_w, tNot_w, tYes_w, tAnd_w, tOr_w, andT_t, andT_f, orT_t, orT_f, boolOf_w, truth_bl, truth_int, truth_non, truth_lst, truth_tup, truth_frz, add_int, sub_int, neg_int, lt_int, le_int, gt_int, ge_int, isNon_w, notNon_w, is_w, isNot_w, int_w, abs_w, gcd_w, tup_w, tupt_w, list_w, listl_w, len_lst, len_tup, len_frz, un1_w, bin2_w, eq_int, ne_int, eq_pair, ne_pair, ix_lst, ix_frz, ix_tup, ix_hand, itK_v, item0, item1, item2, item3, isi_int_i, isi_int_b, isi_int_n, isi_int_s, isi_int_t, isi_int_l, isi_int_f, isi_int_h, isi_bool_i, isi_bool_b, isi_bool_n, isi_bool_s, isi_bool_t, isi_bool_l, isi_bool_f, isi_bool_h, isi_str_i, isi_str_b, isi_str_n, isi_str_s, isi_str_t, isi_str_l, isi_str_f, isi_str_h, isi_tuple_i, isi_tuple_b, isi_tuple_n, isi_tuple_s, isi_tuple_t, isi_tuple_l, isi_tuple_f, isi_tuple_h, isi_list_i, isi_list_b, isi_list_n, isi_list_s, isi_list_t, isi_list_l, isi_list_f, isi_list_h, isi_dict_i, isi_dict_b, isi_dict_n, isi_dict_s, isi_dict_t, isi_dict_l, isi_dict_f, isi_dict_h, sSeq_w, seqK_nx, seqK_rt, seqK_bk, seqK_ct, seqK_ex, onK_ok, onK_ex, sNext_w, sSet_w, sOwn_w, sFrz_w, frzK_v, sApp_w, sExpr_w, sRet_w, sRetN_w, sIf_w, ifK_t, ifK_f, sBrk_w, sCnt_w, sPar_w, parK_v, sUnp_w, unpK_2, unpK_3, unpK_4, sHSet_w, hsK_0, hsK_1, hsK_2, hsK_3, sRaise_w, sFor_w, iSeq_w, seqOf_lst, seqOf_tup, seqOf_frz, iRng_w, loopK_nx, loopK_ct, loopK_bk, loopK_rt, for0, forN, loopF_nx, loopF_ct, loopF_bk, loopF_rt, loopF_ex, sWhile_w, nLc_w, lcB_ok, lc0, lcN, lcT_t, lcT_f, lcE_v, wipeE0, wipeE1, sTry_w, tryK_nx, tryK_rt, suiteK_nx, suiteK_rt, wipe0, wipe_v, wipe_n, wipe_o, call_w, callK_nx, callK_rt, callK_ex, vals0, vals1, List.length_cons, List.length_nil, List.replicate_succ, List.replicate_zero, List.cons_append, List.nil_append, List.getElem?_cons_zero, List.getElem?_cons_succ, List.set_cons_zero, List.set_cons_succ, Nat.reduceSub, Nat.reduceAdd, Nat.zero_add, Bool.not_true, Bool.not_false, Bool.and_self, Bool.and_true, Bool.and_false, isi_lt_t, l8, tryK_ex _ _ _ _ _ m, x1, x2]
theorem try_odd {d : D} (h : ∀ w, isiB [.list, .tuple] d w = .ok (.bl false) w) : F__law_try [d] w = .ok (.lst [.int 0, .str "many"]) w := by
  have m : (2 : Nat) ∈ [2] := by simp
  have x1 : ∀ w : Wd, xfK (some (.exc 2 ["index", "what"] [.int 0, .str "many"])) "index" w = .ok (.int 0) w := fun w => xfK_v 2 _ _ _ rfl
  have x2 : ∀ w : Wd, xfK (some (.exc 2 ["index", "what"] [.int 0, .str "many"])) "what" w = .ok (.str "many") w := fun w => xfK_v 2 _ _ _ rfl
  unfold F__law_try F_check_loads
  simp only [bind_w, bindK_ok, bindK_ex, ret_w, fail_w, eVar_w, varK_v, eC_w, eUn_w, eBin_w, evs0_w, evs1_w, eTup_w, eLst_w, eCall_w, eIf_w, ifE_t, ifE_f, eAnd_w, andE_t, andE_f, eOr_w, orE_t, orE_f, eNot_w, eChain_w, chainM_w, eJs_w, js0, js1, chainK_t, chainK_f, eNew_w, eHand_w, handK_ok, eXf_w, tVal_w, tTru_w, tNot_w, tYes_w, tAnd_w, tOr_w, andT_t, andT_f, orT_t, orT_f, boolOf_w, truth_bl, truth_int, truth_non, truth_lst, truth_tup, truth_frz, add_int, sub_int, neg_int, lt_int, le_int, gt_int, ge_int, isNon_w, notNon_w, is_w, isNot_w, int_w, abs_w, gcd_w, tup_w, tupt_w, list_w, listl_w, len_lst, len_tup, len_frz, un1_w, bin2_w, eq_int, ne_int, eq_pair, ne_pair, ix_lst, ix_frz, ix_tup, ix_hand, itK_v, item0, item1, item2, item3, isi_int_i, isi_int_b, isi_int_n, isi_int_s, isi_int_t, isi_int_l, isi_int_f, isi_int_h, isi_bool_i, isi_bool_b, isi_bool_n, isi_bool_s, isi_bool_t, isi_bool_l, isi_bool_f, isi_bool_h, isi_str_i, isi_str_b, isi_str_n, isi_str_s, isi_str_t, isi_str_l, isi_str_f, isi_str_h, isi_tuple_i, isi_tuple_b, isi_tuple_n, isi_tuple_s, isi_tuple_t, isi_tuple_l, isi_tuple_f, isi_tuple_h, isi_list_i, isi_list_b, isi_list_n, isi_list_s, isi_list_t, isi_list_l, isi_list_f, isi_list_h, isi_dict_i, isi_dict_b, isi_dict_n, isi_dict_s, isi_dict_t, isi_dict_l, isi_dict_f, isi_dict_h, sSeq_w, seqK_nx, seqK_rt, seqK_bk, seqK_ct, seqK_ex, onK_ok, onK_ex, sNext_w, sSet_w, sOwn_w, sFrz_w, frzK_v, sApp_w, sExpr_w, sRet_w, sRetN_w, sIf_w, ifK_t, ifK_f, sBrk_w, sCnt_w, sPar_w, parK_v, sUnp_w, unpK_2, unpK_3, unpK_4, sHSet_w, hsK_0, hsK_1, hsK_2, hsK_3, sRaise_w, sFor_w, iSeq_w, seqOf_lst, seqOf_tup, seqOf_frz, iRng_w, loopK_nx, loopK_ct, loopK_bk, loopK_rt, for0, forN, loopF_nx, loopF_ct, loopF_bk, loopF_rt, loopF_ex, sWhile_w, nLc_w, lcB_ok, lc0, lcN, lcT_t, lcT_f, lcE_v, wipeE0, wipeE1, sTry_w, tryK_nx, tryK_rt, suiteK_nx, suiteK_rt, wipe0, wipe_v, wipe_n, wipe_o, call_w, callK_nx, callK_rt, callK_ex, vals0, vals1, List.length_cons, List.length_nil, List.replicate_succ, List.replicate_zero, List.cons_append, List.nil_append, List.getElem?_cons_zero, List.getElem?_cons_succ, List.set_cons_zero, List.set_cons_succ, Nat.reduceSub, Nat.reduceAdd, Nat.zero_add, Bool.not_true, Bool.not_false, Bool.and_self, Bool.and_true, Bool.and_false, h, tryK_ex _ _ _ _ _ m, x1, x2]
theorem try_marked {ms : List Mk} (h : ∀ m ∈ ms, MkOk m) (hl : ms.length ≤ 8) :
    (fb 0 ms = none → ∃ ds : List D, F__law_try [.lst (ms.map fun m => m.2)] w = .ok (.tup ds) w) ∧
    (∀ i s, fb 0 ms = some (i, s) → F__law_try [.lst (ms.map fun m => m.2)] w = .ok (.lst [.int (i : Int), .str s]) w) := by
  have m : (2 : Nat) ∈ [2] := by simp
  have l8 : decide ((8 : Int) < ((ms.map fun m => m.2).length : Int)) = false := decide_eq_false (by rw [List.length_map]; omega)
  obtain ⟨c1, c2⟩ := chkM (w := w) ms 0 [] (.val (.lst (ms.map fun m => m.2))) .none .none h (by unfold line; simp only [List.length_nil]; omega)
  refine ⟨fun e => ?_, fun i s e => ?_⟩
  · obtain ⟨ds, s2', s3', f⟩ := c1 e
    refine ⟨ds, ?_⟩
    unfold F__law_try F_check_loads
    simp only [bind_w, bindK_ok, bindK_ex, ret_w, fail_w, eVar_w, varK_v, eC_w, eUn_w, eBin_w, evs0_w, evs1_w, eTup_w, eLst_w, eCall_w, eIf_w, ifE_t, ifE_f, eAnd_w, andE_t, andE_f, eOr_w, orE_t, orE_f, eNot_w, eChain_w, chainM_w, eJs_w, js0, js1, chainK_t, chainK_f, eNew_w, eHand_w, handK_ok, eXf_w, tVal_w, tTru_w, tNot_w, tYes_w, tAnd_w, tOr_w, andT_t, andT_f, orT_t, orT_f, boolOf_w, truth_bl, truth_int, truth_non, truth_lst, truth_tup, truth_frz, add_int, sub_int, neg_int, lt_int, le_int, gt_int, ge_int, isNon_w, notNon_w, is_w, isNot_w, int_w, abs_w, gcd_w, tup_w, tupt_w, list_w, listl_w, len_lst, len_tup, len_frz, un1_w, bin2_w, eq_int, ne_int, eq_pair, ne_pair, ix_lst, ix_frz, ix_tup, ix_hand, itK_v, item0, item1, item2, item3, isi_int_i, isi_int_b, isi_int_n, isi_int_s, isi_int_t, isi_int_l, isi_int_f, isi_int_h, isi_bool_i, isi_bool_b, isi_bool_n, isi_bool_s, isi_bool_t, isi_bool_l, isi_bool_f, isi_bool_h, isi_str_i, isi_str_b, isi_str_n, isi_str_s, isi_str_t, isi_str_l, isi_str_f, isi_str_h, isi_tuple_i, isi_tuple_b, isi_tuple_n, isi_tuple_s, isi_tuple_t, isi_tuple_l, isi_tuple_f, isi_tuple_h, isi_list_i, isi_list_b, isi_list_n, isi_list_s, isi_list_t, isi_list_l, isi_list_f, isi_list_h, isi_dict_i, isi_dict_b, isi_dict_n, isi_dict_s, isi_dict_t, isi_dict_l, isi_dict_f, isi_dict_h, sSeq_w, seqK_nx, seqK_rt, seqK_bk, seqK_ct, seqK_ex, onK_ok, onK_ex, sNext_w, sSet_w, sOwn_w, sFrz_w, frzK_v, sApp_w, sExpr_w, sRet_w, sRetN_w, sIf_w, ifK_t, ifK_f, sBrk_w, sCnt_w, sPar_w, parK_v, sUnp_w, unpK_2, unpK_3, unpK_4, sHSet_w, hsK_0, hsK_1, hsK_2, hsK_3, sRaise_w, sFor_w, iSeq_w, seqOf_lst, seqOf_tup, seqOf_frz, iRng_w, loopK_nx, loopK_ct, loopK_bk, loopK_rt, for0, forN, loopF_nx, loopF_ct, loopF_bk, loopF_rt, loopF_ex, sWhile_w, nLc_w, lcB_ok, lc0, lcN, lcT_t, lcT_f, lcE_v, wipeE0, wipeE1, sTry_w, tryK_nx, tryK_rt, suiteK_nx, suiteK_rt, wipe0, wipe_v, wipe_n, wipe_o, call_w, callK_nx, callK_rt, callK_ex, vals0, vals1, List.length_cons, List.length_nil, List.replicate_succ, List.replicate_zero, List.cons_append, List.nil_append, List.getElem?_cons_zero, List.getElem?_cons_succ, List.set_cons_zero, List.set_cons_succ, Nat.reduceSub, Nat.reduceAdd, Nat.zero_add, Bool.not_true, Bool.not_false, Bool.and_self, Bool.and_true, Bool.and_false, isi_lt_l, l8, iEnum_w]
    rw [f]
    simp only [bind_w, bindK_ok, bindK_ex, ret_w, fail_w, eVar_w, varK_v, eC_w, eUn_w, eBin_w, evs0_w, evs1_w, eTup_w, eLst_w, eCall_w, eIf_w, ifE_t, ifE_f, eAnd_w, andE_t, andE_f, eOr_w, orE_t, orE_f, eNot_w, eChain_w, chainM_w, eJs_w, js0, js1, chainK_t, chainK_f, eNew_w, eHand_w, handK_ok, eXf_w, tVal_w, tTru_w, tNot_w, tYes_w, tAnd_w, tOr_w, andT_t, andT_f, orT_t, orT_f, boolOf_w, truth_bl, truth_int, truth_non, truth_lst, truth_tup, truth_frz, add_int, sub_int, neg_int, lt_int, le_int, gt_int, ge_int, isNon_w, notNon_w, is_w, isNot_w, int_w, abs_w, gcd_w, tup_w, tupt_w, list_w, listl_w, len_lst, len_tup, len_frz, un1_w, bin2_w, eq_int, ne_int, eq_pair, ne_pair, ix_lst, ix_frz, ix_tup, ix_hand, itK_v, item0, item1, item2, item3, isi_int_i, isi_int_b, isi_int_n, isi_int_s, isi_int_t, isi_int_l, isi_int_f, isi_int_h, isi_bool_i, isi_bool_b, isi_bool_n, isi_bool_s, isi_bool_t, isi_bool_l, isi_bool_f, isi_bool_h, isi_str_i, isi_str_b, isi_str_n, isi_str_s, isi_str_t, isi_str_l, isi_str_f, isi_str_h, isi_tuple_i, isi_tuple_b, isi_tuple_n, isi_tuple_s, isi_tuple_t, isi_tuple_l, isi_tuple_f, isi_tuple_h, isi_list_i, isi_list_b, isi_list_n, isi_list_s, isi_list_t, isi_list_l, isi_list_f, isi_list_h, isi_dict_i, isi_dict_b, isi_dict_n, isi_dict_s, isi_dict_t, isi_dict_l, isi_dict_f, isi_dict_h, sSeq_w, seqK_nx, seqK_rt, seqK_bk, seqK_ct, seqK_ex, onK_ok, onK_ex, sNext_w, sSet_w, sOwn_w, sFrz_w, frzK_v, sApp_w, sExpr_w, sRet_w, sRetN_w, sIf_w, ifK_t, ifK_f, sBrk_w, sCnt_w, sPar_w, parK_v, sUnp_w, unpK_2, unpK_3, unpK_4, sHSet_w, hsK_0, hsK_1, hsK_2, hsK_3, sRaise_w, sFor_w, iSeq_w, seqOf_lst, seqOf_tup, seqOf_frz, iRng_w, loopK_nx, loopK_ct, loopK_bk, loopK_rt, for0, forN, loopF_nx, loopF_ct, loopF_bk, loopF_rt, loopF_ex, sWhile_w, nLc_w, lcB_ok, lc0, lcN, lcT_t, lcT_f, lcE_v, wipeE0, wipeE1, sTry_w, tryK_nx, tryK_rt, suiteK_nx, suiteK_rt, wipe0, wipe_v, wipe_n, wipe_o, call_w, callK_nx, callK_rt, callK_ex, vals0, vals1, List.length_cons, List.length_nil, List.replicate_succ, List.replicate_zero, List.cons_append, List.nil_append, List.getElem?_cons_zero, List.getElem?_cons_succ, List.set_cons_zero, List.set_cons_succ, Nat.reduceSub, Nat.reduceAdd, Nat.zero_add, Bool.not_true, Bool.not_false, Bool.and_self, Bool.and_true, Bool.and_false]
  · obtain ⟨ds, s2', s3', f⟩ := c2 i s e
    have x1 : ∀ w : Wd, xfK (some (.exc 2 ["index", "what"] [.int (i : Int), .str s])) "index" w = .ok (.int (i : Int)) w := fun w => xfK_v 2 _ _ _ rfl
    have x2 : ∀ w : Wd, xfK (some (.exc 2 ["index", "what"] [.int (i : Int), .str s])) "what" w = .ok (.str s) w := fun w => xfK_v 2 _ _ _ rfl
    unfold F__law_try F_check_loads
    simp only [bind_w, bindK_ok, bindK_ex, ret_w, fail_w, eVar_w, varK_v, eC_w, eUn_w, eBin_w, evs0_w, evs1_w, eTup_w, eLst_w, eCall_w, eIf_w, ifE_t, ifE_f, eAnd_w, andE_t, andE_f, eOr_w, orE_t, orE_f, eNot_w, eChain_w, chainM_w, eJs_w, js0, js1, chainK_t, chainK_f, eNew_w, eHand_w, handK_ok, eXf_w, tVal_w, tTru_w, tNot_w, tYes_w, tAnd_w, tOr_w, andT_t, andT_f, orT_t, orT_f, boolOf_w, truth_bl, truth_int, truth_non, truth_lst, truth_tup, truth_frz, add_int, sub_int, neg_int, lt_int, le_int, gt_int, ge_int, isNon_w, notNon_w, is_w, isNot_w, int_w, abs_w, gcd_w, tup_w, tupt_w, list_w, listl_w, len_lst, len_tup, len_frz, un1_w, bin2_w, eq_int, ne_int, eq_pair, ne_pair, ix_lst, ix_frz, ix_tup, ix_hand, itK_v, item0, item1, item2, item3, isi_int_i, isi_int_b, isi_int_n, isi_int_s, isi_int_t, isi_int_l, isi_int_f, isi_int_h, isi_bool_i, isi_bool_b, isi_bool_n, isi_bool_s, isi_bool_t, isi_bool_l, isi_bool_f, isi_bool_h, isi_str_i, isi_str_b, isi_str_n, isi_str_s, isi_str_t, isi_str_l, isi_str_f, isi_str_h, isi_tuple_i, isi_tuple_b, isi_tuple_n, isi_tuple_s, isi_tuple_t, isi_tuple_l, isi_tuple_f, isi_tuple_h, isi_list_i, isi_list_b, isi_list_n, isi_list_s, isi_list_t, isi_list_l, isi_list_f, isi_list_h, isi_dict_i, isi_dict_b, isi_dict_n, isi_dict_s, isi_dict_t, isi_dict_l, isi_dict_f, isi_dict_h, sSeq_w, seqK_nx, seqK_rt, seqK_bk, seqK_ct, seqK_ex, onK_ok, onK_ex, sNext_w, sSet_w, sOwn_w, sFrz_w, frzK_v, sApp_w, sExpr_w, sRet_w, sRetN_w, sIf_w, ifK_t, ifK_f, sBrk_w, sCnt_w, sPar_w, parK_v, sUnp_w, unpK_2, unpK_3, unpK_4, sHSet_w, hsK_0, hsK_1, hsK_2, hsK_3, sRaise_w, sFor_w, iSeq_w, seqOf_lst, seqOf_tup, seqOf_frz, iRng_w, loopK_nx, loopK_ct, loopK_bk, loopK_rt, for0, forN, loopF_nx, loopF_ct, loopF_bk, loopF_rt, loopF_ex, sWhile_w, nLc_w, lcB_ok, lc0, lcN, lcT_t, lcT_f, lcE_v, wipeE0, wipeE1, sTry_w, tryK_nx, tryK_rt, suiteK_nx, suiteK_rt, wipe0, wipe_v, wipe_n, wipe_o, call_w, callK_nx, callK_rt, callK_ex, vals0, vals1, List.length_cons, List.length_nil, List.replicate_succ, List.replicate_zero, List.cons_append, List.nil_append, List.getElem?_cons_zero, List.getElem?_cons_succ, List.set_cons_zero, List.set_cons_succ, Nat.reduceSub, Nat.reduceAdd, Nat.zero_add, Bool.not_true, Bool.not_false, Bool.and_self, Bool.and_true, Bool.and_false, isi_lt_l, l8, iEnum_w]
    rw [f]
    simp only [bind_w, bindK_ok, bindK_ex, ret_w, fail_w, eVar_w, varK_v, eC_w, eUn_w, eBin_w, evs0_w, evs1_w, eTup_w, eLst_w, eCall_w, eIf_w, ifE_t, ifE_f, eAnd_w, andE_t, andE_f, eOr_w, orE_t, orE_f, eNot_w, eChain_w, chainM_w, eJs_w, js0, js1, chainK_t, chainK_f, eNew_w, eHand_w, handK_ok, eXf_w, tVal_w, tTru_w, tNot_w, tYes_w, tAnd_w, tOr_w, andT_t, andT_f, orT_t, orT_f, boolOf_w, truth_bl, truth_int, truth_non, truth_lst, truth_tup, truth_frz, add_int, sub_int, neg_int, lt_int, le_int, gt_int, ge_int, isNon_w, notNon_w, is_w, isNot_w, int_w, abs_w, gcd_w, tup_w, tupt_w, list_w, listl_w, len_lst, len_tup, len_frz, un1_w, bin2_w, eq_int, ne_int, eq_pair, ne_pair, ix_lst, ix_frz, ix_tup, ix_hand, itK_v, item0, item1, item2, item3, isi_int_i, isi_int_b, isi_int_n, isi_int_s, isi_int_t, isi_int_l, isi_int_f, isi_int_h, isi_bool_i, isi_bool_b, isi_bool_n, isi_bool_s, isi_bool_t, isi_bool_l, isi_bool_f, isi_bool_h, isi_str_i, isi_str_b, isi_str_n, isi_str_s, isi_str_t, isi_str_l, isi_str_f, isi_str_h, isi_tuple_i, isi_tuple_b, isi_tuple_n, isi_tuple_s, isi_tuple_t, isi_tuple_l, isi_tuple_f, isi_tuple_h, isi_list_i, isi_list_b, isi_list_n, isi_list_s, isi_list_t, isi_list_l, isi_list_f, isi_list_h, isi_dict_i, isi_dict_b, isi_dict_n, isi_dict_s, isi_dict_t, isi_dict_l, isi_dict_f, isi_dict_h, sSeq_w, seqK_nx, seqK_rt, seqK_bk, seqK_ct, seqK_ex, onK_ok, onK_ex, sNext_w, sSet_w, sOwn_w, sFrz_w, frzK_v, sApp_w, sExpr_w, sRet_w, sRetN_w, sIf_w, ifK_t, ifK_f, sBrk_w, sCnt_w, sPar_w, parK_v, sUnp_w, unpK_2, unpK_3, unpK_4, sHSet_w, hsK_0, hsK_1, hsK_2, hsK_3, sRaise_w, sFor_w, iSeq_w, seqOf_lst, seqOf_tup, seqOf_frz, iRng_w, loopK_nx, loopK_ct, loopK_bk, loopK_rt, for0, forN, loopF_nx, loopF_ct, loopF_bk, loopF_rt, loopF_ex, sWhile_w, nLc_w, lcB_ok, lc0, lcN, lcT_t, lcT_f, lcE_v, wipeE0, wipeE1, sTry_w, tryK_nx, tryK_rt, suiteK_nx, suiteK_rt, wipe0, wipe_v, wipe_n, wipe_o, call_w, callK_nx, callK_rt, callK_ex, vals0, vals1, List.length_cons, List.length_nil, List.replicate_succ, List.replicate_zero, List.cons_append, List.nil_append, List.getElem?_cons_zero, List.getElem?_cons_succ, List.set_cons_zero, List.set_cons_succ, Nat.reduceSub, Nat.reduceAdd, Nat.zero_add, Bool.not_true, Bool.not_false, Bool.and_self, Bool.and_true, Bool.and_false, tryK_ex _ _ _ _ _ m, x1, x2]
/-! the wrong ones -/
def l0 : D := .tup [.tup [.int 1, .int 2], .tup [.tup [.int 3, .int 1], .tup [.int (-4), .int 1]]]
theorem l0_ld : l0 = ld ⟨Rat.divInt 1 2, Rat.divInt 3 1, Rat.divInt (-4) 1⟩ := by rfl
theorem l0_good : GoodE l0 ⟨Rat.divInt 1 2, Rat.divInt 3 1, Rat.divInt (-4) 1⟩ := by
  rw [l0_ld]
  exact good_ld ⟨sm_div (by decide) (by decide) (by decide), divInt_nonneg (by decide) (by decide), sm_div (by decide) (by decide) (by decide), sm_div (by decide) (by decide) (by decide)⟩
theorem good_mk : MkOk ("", l0) := ⟨rfl, by show okS ""; unfold okS; decide +kernel, by show ("" : Str).length ≤ 100; decide +kernel, .inl ⟨by show ("" : Str).length = 0; decide +kernel, _, l0_good⟩⟩
theorem bad_mk {s : Str} {d : D} (h1 : noHand d = true) (h2 : BadE d s) (h3 : s = "load" ∨ s = "weight" ∨ s = "place") : MkOk (s, d) := by
  have a : okS s ∧ s.length ≤ 100 ∧ s.length ≠ 0 := by
    rcases h3 with rfl | rfl | rfl <;> exact ⟨by unfold okS; decide +kernel, by decide +kernel, by decide +kernel⟩
  exact ⟨h1, a.1, a.2.1, .inr ⟨a.2.2, h2⟩⟩
theorem spoilt_w (hi : HandI w) : ∃ (s : Str) (d : D) (w' : Wd), F__law_spoilt [.hand, l0] w = .ok (mk (s, d)) w' ∧ MkOk (s, d) ∧ HandI w' := by
  have pw : ∀ w : Wd, powD (.int 10) (.int 12) w = .ok (.int 1000000000000) w := fun w => by rw [pow_int (by decide)]; rfl
  obtain ⟨k, w1, e1, k0, k9, h1⟩ := take_w (many := 3) (k := 2) hi (by decide) (by unfold Sz; decide) (by decide)
  unfold F__law_spoilt l0
  have hk : k = 0 ∨ k = 1 ∨ k = 2 := by omega
  rcases hk with rfl | rfl | rfl
  · obtain ⟨j, w2, e2, j0, j9, h2⟩ := take_w (many := 4) (k := 3) h1 (by decide) (by unfold Sz; decide) (by decide)
    have hj : j = 0 ∨ j = 1 ∨ j = 2 ∨ j = 3 := by omega
    rcases hj with rfl | rfl | rfl | rfl
    all_goals
      simp only [bind_w, bindK_ok, bindK_ex, ret_w, fail_w, eVar_w, varK_v, eC_w, eUn_w, eBin_w, evs0_w, evs1_w, eTup_w, eLst_w, eCall_w, eIf_w, ifE_t, ifE_f, eAnd_w, andE_t, andE_f, eOr_w, orE_t, orE_f, eNot_w, eChain_w, chainM_w, eJs_w, js0, js1, chainK_t, chainK_f, eNew_w, eHand_w, handK_ok, eXf_w, tVal_w, tTru_w, tNot_w, tYes_w, tAnd_w, tOr_w, andT_t, andT_f, orT_t, orT_f, boolOf_w, truth_bl, truth_int, truth_non, truth_lst, truth_tup, truth_frz, add_int, sub_int, neg_int, lt_int, le_int, gt_int, ge_int, isNon_w, notNon_w, is_w, isNot_w, int_w, abs_w, gcd_w, tup_w, tupt_w, list_w, listl_w, len_lst, len_tup, len_frz, un1_w, bin2_w, eq_int, ne_int, eq_pair, ne_pair, ix_lst, ix_frz, ix_tup, ix_hand, itK_v, item0, item1, item2, item3, isi_int_i, isi_int_b, isi_int_n, isi_int_s, isi_int_t, isi_int_l, isi_int_f, isi_int_h, isi_bool_i, isi_bool_b, isi_bool_n, isi_bool_s, isi_bool_t, isi_bool_l, isi_bool_f, isi_bool_h, isi_str_i, isi_str_b, isi_str_n, isi_str_s, isi_str_t, isi_str_l, isi_str_f, isi_str_h, isi_tuple_i, isi_tuple_b, isi_tuple_n, isi_tuple_s, isi_tuple_t, isi_tuple_l, isi_tuple_f, isi_tuple_h, isi_list_i, isi_list_b, isi_list_n, isi_list_s, isi_list_t, isi_list_l, isi_list_f, isi_list_h, isi_dict_i, isi_dict_b, isi_dict_n, isi_dict_s, isi_dict_t, isi_dict_l, isi_dict_f, isi_dict_h, sSeq_w, seqK_nx, seqK_rt, seqK_bk, seqK_ct, seqK_ex, onK_ok, onK_ex, sNext_w, sSet_w, sOwn_w, sFrz_w, frzK_v, sApp_w, sExpr_w, sRet_w, sRetN_w, sIf_w, ifK_t, ifK_f, sBrk_w, sCnt_w, sPar_w, parK_v, sUnp_w, unpK_2, unpK_3, unpK_4, sHSet_w, hsK_0, hsK_1, hsK_2, hsK_3, sRaise_w, sFor_w, iSeq_w, seqOf_lst, seqOf_tup, seqOf_frz, iRng_w, loopK_nx, loopK_ct, loopK_bk, loopK_rt, for0, forN, loopF_nx, loopF_ct, loopF_bk, loopF_rt, loopF_ex, sWhile_w, nLc_w, lcB_ok, lc0, lcN, lcT_t, lcT_f, lcE_v, wipeE0, wipeE1, sTry_w, tryK_nx, tryK_rt, suiteK_nx, suiteK_rt, wipe0, wipe_v, wipe_n, wipe_o, call_w, callK_nx, callK_rt, callK_ex, vals0, vals1, List.length_cons, List.length_nil, List.replicate_succ, List.replicate_zero, List.cons_append, List.nil_append, List.getElem?_cons_zero, List.getElem?_cons_succ, List.set_cons_zero, List.set_cons_succ, Nat.reduceSub, Nat.reduceAdd, Nat.zero_add, Bool.not_true, Bool.not_false, Bool.and_self, Bool.and_true, Bool.and_false, e1, e2, beq_self_eq_true]
      exact ⟨"load", _, _, rfl, bad_mk rfl (fun k acc s0 w => by rfl) (.inl rfl), h2⟩
  · obtain ⟨j, w2, e2, j0, j9, h2⟩ := take_w (many := 6) (k := 3) h1 (by decide) (by unfold Sz; decide) (by decide)
    obtain ⟨i, w3, e3, i0, i9, h3⟩ := take_w (many := 2) (k := 2) h2 (by decide) (by unfold Sz; decide) (by decide)
    have z : ((1 : Int) == 0) = false := by decide
    have it4 : ∀ (a b c d e f : D), itemAt [a, b, c, d, e, f] 4 = some e := fun a b c d e f => rfl
    have it5 : ∀ (a b c d e f : D), itemAt [a, b, c, d, e, f] 5 = some f := fun a b c d e f => rfl
    have hj : j = 0 ∨ j = 1 ∨ j = 2 ∨ j = 3 ∨ j = 4 ∨ j = 5 := by omega
    have hi : i = 0 ∨ i = 1 := by omega
    rcases hj with rfl | rfl | rfl | rfl | rfl | rfl <;> rcases hi with rfl | rfl
    all_goals
      simp only [bind_w, bindK_ok, bindK_ex, ret_w, fail_w, eVar_w, varK_v, eC_w, eUn_w, eBin_w, evs0_w, evs1_w, eTup_w, eLst_w, eCall_w, eIf_w, ifE_t, ifE_f, eAnd_w, andE_t, andE_f, eOr_w, orE_t, orE_f, eNot_w, eChain_w, chainM_w, eJs_w, js0, js1, chainK_t, chainK_f, eNew_w, eHand_w, handK_ok, eXf_w, tVal_w, tTru_w, tNot_w, tYes_w, tAnd_w, tOr_w, andT_t, andT_f, orT_t, orT_f, boolOf_w, truth_bl, truth_int, truth_non, truth_lst, truth_tup, truth_frz, add_int, sub_int, neg_int, lt_int, le_int, gt_int, ge_int, isNon_w, notNon_w, is_w, isNot_w, int_w, abs_w, gcd_w, tup_w, tupt_w, list_w, listl_w, len_lst, len_tup, len_frz, un1_w, bin2_w, eq_int, ne_int, eq_pair, ne_pair, ix_lst, ix_frz, ix_tup, ix_hand, itK_v, item0, item1, item2, item3, isi_int_i, isi_int_b, isi_int_n, isi_int_s, isi_int_t, isi_int_l, isi_int_f, isi_int_h, isi_bool_i, isi_bool_b, isi_bool_n, isi_bool_s, isi_bool_t, isi_bool_l, isi_bool_f, isi_bool_h, isi_str_i, isi_str_b, isi_str_n, isi_str_s, isi_str_t, isi_str_l, isi_str_f, isi_str_h, isi_tuple_i, isi_tuple_b, isi_tuple_n, isi_tuple_s, isi_tuple_t, isi_tuple_l, isi_tuple_f, isi_tuple_h, isi_list_i, isi_list_b, isi_list_n, isi_list_s, isi_list_t, isi_list_l, isi_list_f, isi_list_h, isi_dict_i, isi_dict_b, isi_dict_n, isi_dict_s, isi_dict_t, isi_dict_l, isi_dict_f, isi_dict_h, sSeq_w, seqK_nx, seqK_rt, seqK_bk, seqK_ct, seqK_ex, onK_ok, onK_ex, sNext_w, sSet_w, sOwn_w, sFrz_w, frzK_v, sApp_w, sExpr_w, sRet_w, sRetN_w, sIf_w, ifK_t, ifK_f, sBrk_w, sCnt_w, sPar_w, parK_v, sUnp_w, unpK_2, unpK_3, unpK_4, sHSet_w, hsK_0, hsK_1, hsK_2, hsK_3, sRaise_w, sFor_w, iSeq_w, seqOf_lst, seqOf_tup, seqOf_frz, iRng_w, loopK_nx, loopK_ct, loopK_bk, loopK_rt, for0, forN, loopF_nx, loopF_ct, loopF_bk, loopF_rt, loopF_ex, sWhile_w, nLc_w, lcB_ok, lc0, lcN, lcT_t, lcT_f, lcE_v, wipeE0, wipeE1, sTry_w, tryK_nx, tryK_rt, suiteK_nx, suiteK_rt, wipe0, wipe_v, wipe_n, wipe_o, call_w, callK_nx, callK_rt, callK_ex, vals0, vals1, List.length_cons, List.length_nil, List.replicate_succ, List.replicate_zero, List.cons_append, List.nil_append, List.getElem?_cons_zero, List.getElem?_cons_succ, List.set_cons_zero, List.set_cons_succ, Nat.reduceSub, Nat.reduceAdd, Nat.zero_add, Bool.not_true, Bool.not_false, Bool.and_self, Bool.and_true, Bool.and_false, e1, z, beq_self_eq_true, pw, e2, it4, it5, e3]
      exact ⟨"weight", _, _, rfl, bad_mk rfl (fun k acc s0 w => by rfl) (.inr (.inl rfl)), h3⟩
  · obtain ⟨j, w2, e2, j0, j9, h2⟩ := take_w (many := 4) (k := 3) h1 (by decide) (by unfold Sz; decide) (by decide)
    have z : ((2 : Int) == 0) = false := by decide
    have z1 : ((2 : Int) == 1) = false := by decide
    have hj : j = 0 ∨ j = 1 ∨ j = 2 ∨ j = 3 := by omega
    rcases hj with rfl | rfl | rfl | rfl
    all_goals
      simp only [bind_w, bindK_ok, bindK_ex, ret_w, fail_w, eVar_w, varK_v, eC_w, eUn_w, eBin_w, evs0_w, evs1_w, eTup_w, eLst_w, eCall_w, eIf_w, ifE_t, ifE_f, eAnd_w, andE_t, andE_f, eOr_w, orE_t, orE_f, eNot_w, eChain_w, chainM_w, eJs_w, js0, js1, chainK_t, chainK_f, eNew_w, eHand_w, handK_ok, eXf_w, tVal_w, tTru_w, tNot_w, tYes_w, tAnd_w, tOr_w, andT_t, andT_f, orT_t, orT_f, boolOf_w, truth_bl, truth_int, truth_non, truth_lst, truth_tup, truth_frz, add_int, sub_int, neg_int, lt_int, le_int, gt_int, ge_int, isNon_w, notNon_w, is_w, isNot_w, int_w, abs_w, gcd_w, tup_w, tupt_w, list_w, listl_w, len_lst, len_tup, len_frz, un1_w, bin2_w, eq_int, ne_int, eq_pair, ne_pair, ix_lst, ix_frz, ix_tup, ix_hand, itK_v, item0, item1, item2, item3, isi_int_i, isi_int_b, isi_int_n, isi_int_s, isi_int_t, isi_int_l, isi_int_f, isi_int_h, isi_bool_i, isi_bool_b, isi_bool_n, isi_bool_s, isi_bool_t, isi_bool_l, isi_bool_f, isi_bool_h, isi_str_i, isi_str_b, isi_str_n, isi_str_s, isi_str_t, isi_str_l, isi_str_f, isi_str_h, isi_tuple_i, isi_tuple_b, isi_tuple_n, isi_tuple_s, isi_tuple_t, isi_tuple_l, isi_tuple_f, isi_tuple_h, isi_list_i, isi_list_b, isi_list_n, isi_list_s, isi_list_t, isi_list_l, isi_list_f, isi_list_h, isi_dict_i, isi_dict_b, isi_dict_n, isi_dict_s, isi_dict_t, isi_dict_l, isi_dict_f, isi_dict_h, sSeq_w, seqK_nx, seqK_rt, seqK_bk, seqK_ct, seqK_ex, onK_ok, onK_ex, sNext_w, sSet_w, sOwn_w, sFrz_w, frzK_v, sApp_w, sExpr_w, sRet_w, sRetN_w, sIf_w, ifK_t, ifK_f, sBrk_w, sCnt_w, sPar_w, parK_v, sUnp_w, unpK_2, unpK_3, unpK_4, sHSet_w, hsK_0, hsK_1, hsK_2, hsK_3, sRaise_w, sFor_w, iSeq_w, seqOf_lst, seqOf_tup, seqOf_frz, iRng_w, loopK_nx, loopK_ct, loopK_bk, loopK_rt, for0, forN, loopF_nx, loopF_ct, loopF_bk, loopF_rt, loopF_ex, sWhile_w, nLc_w, lcB_ok, lc0, lcN, lcT_t, lcT_f, lcE_v, wipeE0, wipeE1, sTry_w, tryK_nx, tryK_rt, suiteK_nx, suiteK_rt, wipe0, wipe_v, wipe_n, wipe_o, call_w, callK_nx, callK_rt, callK_ex, vals0, vals1, List.length_cons, List.length_nil, List.replicate_succ, List.replicate_zero, List.cons_append, List.nil_append, List.getElem?_cons_zero, List.getElem?_cons_succ, List.set_cons_zero, List.set_cons_succ, Nat.reduceSub, Nat.reduceAdd, Nat.zero_add, Bool.not_true, Bool.not_false, Bool.and_self, Bool.and_true, Bool.and_false, e1, z, z1, pw, e2]
      exact ⟨"place", _, _, rfl, bad_mk rfl (fun k acc s0 w => by rfl) (.inr (.inr rfl)), h2⟩
/-! the list with the wrong ones -/
theorem noHandL_mk : ∀ ms : List Mk, (∀ m ∈ ms, MkOk m) → noHandL (ms.map mk) = true
  | [], _ => rfl
  | m :: ms, h => by
    rw [List.map_cons]
    simp only [noHandL, noHand, (h m (List.mem_cons_self ..)).nh, noHandL_mk ms fun y hy => h y (List.mem_cons_of_mem _ hy), Bool.and_self]
theorem put_w {ms : List Mk} {s1 s3 s4 s5 s6 s7 s8 : Slot} (hi : HandI w) (h : ∀ m ∈ ms, MkOk m) (hl : ms.length ≤ 100) : ∃ (ms' : List Mk) (w' : Wd) (u4 : Slot), B__law_refused_0 [.val .hand, s1, .own (ms.map mk), s3, s4, s5, s6, s7, s8] w = .nx [.val .hand, s1, .own (ms'.map mk), s3, u4, .val l0, s6, s7, s8] w' ∧ HandI w' ∧ (∀ m ∈ ms', MkOk m) ∧ ms'.length = ms.length + 1 := by
  have nh := noHandL_mk ms h
  obtain ⟨a, w1, e1, a0, a9, h1⟩ := take_w (many := (((ms.map mk).length : Nat) : Int) + 1) (k := 10) hi (by omega) (sz_of (by omega) (by rw [List.length_map]; omega)) (by decide)
  have bl := fun w => bor_len (w := w) (ρ := [.val .hand, s1, .own (ms.map mk), s3, s4, s5, s6, s7, s8]) 2 rfl nh
  have ea : a = ((a.toNat : Nat) : Int) := by omega
  have lx : (ms.map mk).length < line := by rw [List.length_map]; unfold line; omega
  have ins : ∀ m : Mk, (ms.map mk).take a.toNat ++ [mk m] ++ (ms.map mk).drop a.toNat = (ms.take a.toNat ++ [m] ++ ms.drop a.toNat).map mk := fun m => by
    rw [List.map_append, List.map_append, List.map_take, List.map_drop]; rfl
  have okm : ∀ m : Mk, MkOk m → ∀ x ∈ ms.take a.toNat ++ [m] ++ ms.drop a.toNat, MkOk x := fun m hm x hx => by
    rcases List.mem_append.mp hx with hx | hx
    · rcases List.mem_append.mp hx with hx | hx
      · exact h x (List.mem_of_mem_take hx)
      · rw [List.mem_singleton.mp hx]; exact hm
    · exact h x (List.mem_of_mem_drop hx)
  have lenm : ∀ m : Mk, (ms.take a.toNat ++ [m] ++ ms.drop a.toNat).length = ms.length + 1 := fun m => by
    rw [List.length_append, List.length_append, List.length_take, List.length_drop, List.length_singleton]
    rw [List.length_map] at a9
    omega
  obtain ⟨k, w2, e2, k0, k9, h2⟩ := take_w (many := 3) (k := 2) h1 (by decide) (by unfold Sz; decide) (by decide)
  rw [B__law_refused_0_w]
  have mv := fun (ρ : FL.Env) (d : D) (w : Wd) => mutK_v (ρ := ρ) (w := w) 2 insF (ins_v (xs := ms.map mk) (k := a.toNat) (d := d) (by rw [List.length_map] at a9; omega) lx)
  rw [← ea] at mv
  by_cases hk : k = 0
  · subst hk
    have z : ((0 : Int) != 0) = false := by decide
    refine ⟨_, w2, .val (.int a), ?_, h2, okm ("", l0) good_mk, lenm _⟩
    rw [← ins]
    simp only [bind_w, bindK_ok, bindK_ex, ret_w, fail_w, eVar_w, varK_v, eC_w, eUn_w, eBin_w, evs0_w, evs1_w, eTup_w, eLst_w, eCall_w, eIf_w, ifE_t, ifE_f, eAnd_w, andE_t, andE_f, eOr_w, orE_t, orE_f, eNot_w, eChain_w, chainM_w, eJs_w, js0, js1, chainK_t, chainK_f, eNew_w, eHand_w, handK_ok, eXf_w, tVal_w, tTru_w, tNot_w, tYes_w, tAnd_w, tOr_w, andT_t, andT_f, orT_t, orT_f, boolOf_w, truth_bl, truth_int, truth_non, truth_lst, truth_tup, truth_frz, add_int, sub_int, neg_int, lt_int, le_int, gt_int, ge_int, isNon_w, notNon_w, is_w, isNot_w, int_w, abs_w, gcd_w, tup_w, tupt_w, list_w, listl_w, len_lst, len_tup, len_frz, un1_w, bin2_w, eq_int, ne_int, eq_pair, ne_pair, ix_lst, ix_frz, ix_tup, ix_hand, itK_v, item0, item1, item2, item3, isi_int_i, isi_int_b, isi_int_n, isi_int_s, isi_int_t, isi_int_l, isi_int_f, isi_int_h, isi_bool_i, isi_bool_b, isi_bool_n, isi_bool_s, isi_bool_t, isi_bool_l, isi_bool_f, isi_bool_h, isi_str_i, isi_str_b, isi_str_n, isi_str_s, isi_str_t, isi_str_l, isi_str_f, isi_str_h, isi_tuple_i, isi_tuple_b, isi_tuple_n, isi_tuple_s, isi_tuple_t, isi_tuple_l, isi_tuple_f, isi_tuple_h, isi_list_i, isi_list_b, isi_list_n, isi_list_s, isi_list_t, isi_list_l, isi_list_f, isi_list_h, isi_dict_i, isi_dict_b, isi_dict_n, isi_dict_s, isi_dict_t, isi_dict_l, isi_dict_f, isi_dict_h, sSeq_w, seqK_nx, seqK_rt, seqK_bk, seqK_ct, seqK_ex, onK_ok, onK_ex, sNext_w, sSet_w, sOwn_w, sFrz_w, frzK_v, sApp_w, sExpr_w, sRet_w, sRetN_w, sIf_w, ifK_t, ifK_f, sBrk_w, sCnt_w, sPar_w, parK_v, sUnp_w, unpK_2, unpK_3, unpK_4, sHSet_w, hsK_0, hsK_1, hsK_2, hsK_3, sRaise_w, sFor_w, iSeq_w, seqOf_lst, seqOf_tup, seqOf_frz, iRng_w, loopK_nx, loopK_ct, loopK_bk, loopK_rt, for0, forN, loopF_nx, loopF_ct, loopF_bk, loopF_rt, loopF_ex, sWhile_w, nLc_w, lcB_ok, lc0, lcN, lcT_t, lcT_f, lcE_v, wipeE0, wipeE1, sTry_w, tryK_nx, tryK_rt, suiteK_nx, suiteK_rt, wipe0, wipe_v, wipe_n, wipe_o, call_w, callK_nx, callK_rt, callK_ex, vals0, vals1, List.length_cons, List.length_nil, List.replicate_succ, List.replicate_zero, List.cons_append, List.nil_append, List.getElem?_cons_zero, List.getElem?_cons_succ, List.set_cons_zero, List.set_cons_succ, Nat.reduceSub, Nat.reduceAdd, Nat.zero_add, Bool.not_true, Bool.not_false, Bool.and_self, Bool.and_true, Bool.and_false, sMut_w, sMK_v, bl, e1, e2, z, mv]
    rfl
  · have z : (k != 0) = true := by simpa using hk
    obtain ⟨s, d, w3, e3, hm, h3⟩ := spoilt_w h2
    refine ⟨_, w3, .val (.int a), ?_, h3, okm (s, d) hm, lenm _⟩
    rw [← ins]
    unfold l0 at e3
    simp only [bind_w, bindK_ok, bindK_ex, ret_w, fail_w, eVar_w, varK_v, eC_w, eUn_w, eBin_w, evs0_w, evs1_w, eTup_w, eLst_w, eCall_w, eIf_w, ifE_t, ifE_f, eAnd_w, andE_t, andE_f, eOr_w, orE_t, orE_f, eNot_w, eChain_w, chainM_w, eJs_w, js0, js1, chainK_t, chainK_f, eNew_w, eHand_w, handK_ok, eXf_w, tVal_w, tTru_w, tNot_w, tYes_w, tAnd_w, tOr_w, andT_t, andT_f, orT_t, orT_f, boolOf_w, truth_bl, truth_int, truth_non, truth_lst, truth_tup, truth_frz, add_int, sub_int, neg_int, lt_int, le_int, gt_int, ge_int, isNon_w, notNon_w, is_w, isNot_w, int_w, abs_w, gcd_w, tup_w, tupt_w, list_w, listl_w, len_lst, len_tup, len_frz, un1_w, bin2_w, eq_int, ne_int, eq_pair, ne_pair, ix_lst, ix_frz, ix_tup, ix_hand, itK_v, item0, item1, item2, item3, isi_int_i, isi_int_b, isi_int_n, isi_int_s, isi_int_t, isi_int_l, isi_int_f, isi_int_h, isi_bool_i, isi_bool_b, isi_bool_n, isi_bool_s, isi_bool_t, isi_bool_l, isi_bool_f, isi_bool_h, isi_str_i, isi_str_b, isi_str_n, isi_str_s, isi_str_t, isi_str_l, isi_str_f, isi_str_h, isi_tuple_i, isi_tuple_b, isi_tuple_n, isi_tuple_s, isi_tuple_t, isi_tuple_l, isi_tuple_f, isi_tuple_h, isi_list_i, isi_list_b, isi_list_n, isi_list_s, isi_list_t, isi_list_l, isi_list_f, isi_list_h, isi_dict_i, isi_dict_b, isi_dict_n, isi_dict_s, isi_dict_t, isi_dict_l, isi_dict_f, isi_dict_h, sSeq_w, seqK_nx, seqK_rt, seqK_bk, seqK_ct, seqK_ex, onK_ok, onK_ex, sNext_w, sSet_w, sOwn_w, sFrz_w, frzK_v, sApp_w, sExpr_w, sRet_w, sRetN_w, sIf_w, ifK_t, ifK_f, sBrk_w, sCnt_w, sPar_w, parK_v, sUnp_w, unpK_2, unpK_3, unpK_4, sHSet_w, hsK_0, hsK_1, hsK_2, hsK_3, sRaise_w, sFor_w, iSeq_w, seqOf_lst, seqOf_tup, seqOf_frz, iRng_w, loopK_nx, loopK_ct, loopK_bk, loopK_rt, for0, forN, loopF_nx, loopF_ct, loopF_bk, loopF_rt, loopF_ex, sWhile_w, nLc_w, lcB_ok, lc0, lcN, lcT_t, lcT_f, lcE_v, wipeE0, wipeE1, sTry_w, tryK_nx, tryK_rt, suiteK_nx, suiteK_rt, wipe0, wipe_v, wipe_n, wipe_o, call_w, callK_nx, callK_rt, callK_ex, vals0, vals1, List.length_cons, List.length_nil, List.replicate_succ, List.replicate_zero, List.cons_append, List.nil_append, List.getElem?_cons_zero, List.getElem?_cons_succ, List.set_cons_zero, List.set_cons_succ, Nat.reduceSub, Nat.reduceAdd, Nat.zero_add, Bool.not_true, Bool.not_false, Bool.and_self, Bool.and_true, Bool.and_false, sMut_w, sMK_v, bl, e1, e2, z, e3, mv]
    rfl
theorem putL {s1 s6 s7 s8 : Slot} : ∀ (m n : Nat) (ms : List Mk) (s3 s4 s5 : Slot) (w : Wd), HandI w → (∀ m ∈ ms, MkOk m) → ms.length + m ≤ 100 → ∃ (ms' : List Mk) (w' : Wd) (u3 u4 u5 : Slot), forL (gN 3) B__law_refused_0 (rng n m) [.val .hand, s1, .own (ms.map mk), s3, s4, s5, s6, s7, s8] w = .nx [.val .hand, s1, .own (ms'.map mk), u3, u4, u5, s6, s7, s8] w' ∧ HandI w' ∧ (∀ m ∈ ms', MkOk m) ∧ ms'.length = ms.length + m
  | 0, n, ms, s3, s4, s5, w, hi, h, hl => ⟨ms, w, s3, s4, s5, rfl, hi, h, rfl⟩
  | m + 1, n, ms, s3, s4, s5, w, hi, h, hl => by
    obtain ⟨ms1, w1, u4, e1, h1, o1, n1⟩ := put_w (s1 := s1) (s3 := .val (.int n)) (s4 := s4) (s5 := s5) (s6 := s6) (s7 := s7) (s8 := s8) hi h (by omega)
    obtain ⟨ms2, w2, y3, y4, y5, e2, h2, o2, n2⟩ := putL m (n + 1) ms1 (.val (.int n)) u4 (.val l0) w1 h1 o1 (by omega)
    refine ⟨ms2, w2, y3, y4, y5, ?_, h2, o2, by omega⟩
    show forL (gN 3) B__law_refused_0 (.int (n : Int) :: rng (n + 1) m) _ w = _
    simp only [bind_w, bindK_ok, bindK_ex, ret_w, fail_w, eVar_w, varK_v, eC_w, eUn_w, eBin_w, evs0_w, evs1_w, eTup_w, eLst_w, eCall_w, eIf_w, ifE_t, ifE_f, eAnd_w, andE_t, andE_f, eOr_w, orE_t, orE_f, eNot_w, eChain_w, chainM_w, eJs_w, js0, js1, chainK_t, chainK_f, eNew_w, eHand_w, handK_ok, eXf_w, tVal_w, tTru_w, tNot_w, tYes_w, tAnd_w, tOr_w, andT_t, andT_f, orT_t, orT_f, boolOf_w, truth_bl, truth_int, truth_non, truth_lst, truth_tup, truth_frz, add_int, sub_int, neg_int, lt_int, le_int, gt_int, ge_int, isNon_w, notNon_w, is_w, isNot_w, int_w, abs_w, gcd_w, tup_w, tupt_w, list_w, listl_w, len_lst, len_tup, len_frz, un1_w, bin2_w, eq_int, ne_int, eq_pair, ne_pair, ix_lst, ix_frz, ix_tup, ix_hand, itK_v, item0, item1, item2, item3, isi_int_i, isi_int_b, isi_int_n, isi_int_s, isi_int_t, isi_int_l, isi_int_f, isi_int_h, isi_bool_i, isi_bool_b, isi_bool_n, isi_bool_s, isi_bool_t, isi_bool_l, isi_bool_f, isi_bool_h, isi_str_i, isi_str_b, isi_str_n, isi_str_s, isi_str_t, isi_str_l, isi_str_f, isi_str_h, isi_tuple_i, isi_tuple_b, isi_tuple_n, isi_tuple_s, isi_tuple_t, isi_tuple_l, isi_tuple_f, isi_tuple_h, isi_list_i, isi_list_b, isi_list_n, isi_list_s, isi_list_t, isi_list_l, isi_list_f, isi_list_h, isi_dict_i, isi_dict_b, isi_dict_n, isi_dict_s, isi_dict_t, isi_dict_l, isi_dict_f, isi_dict_h, sSeq_w, seqK_nx, seqK_rt, seqK_bk, seqK_ct, seqK_ex, onK_ok, onK_ex, sNext_w, sSet_w, sOwn_w, sFrz_w, frzK_v, sApp_w, sExpr_w, sRet_w, sRetN_w, sIf_w, ifK_t, ifK_f, sBrk_w, sCnt_w, sPar_w, parK_v, sUnp_w, unpK_2, unpK_3, unpK_4, sHSet_w, hsK_0, hsK_1, hsK_2, hsK_3, sRaise_w, sFor_w, iSeq_w, seqOf_lst, seqOf_tup, seqOf_frz, iRng_w, loopK_nx, loopK_ct, loopK_bk, loopK_rt, for0, forN, loopF_nx, loopF_ct, loopF_bk, loopF_rt, loopF_ex, sWhile_w, nLc_w, lcB_ok, lc0, lcN, lcT_t, lcT_f, lcE_v, wipeE0, wipeE1, sTry_w, tryK_nx, tryK_rt, suiteK_nx, suiteK_rt, wipe0, wipe_v, wipe_n, wipe_o, call_w, callK_nx, callK_rt, callK_ex, vals0, vals1, List.length_cons, List.length_nil, List.replicate_succ, List.replicate_zero, List.cons_append, List.nil_append, List.getElem?_cons_zero, List.getElem?_cons_succ, List.set_cons_zero, List.set_cons_succ, Nat.reduceSub, Nat.reduceAdd, Nat.zero_add, Bool.not_true, Bool.not_false, Bool.and_self, Bool.and_true, Bool.and_false, e1]
    exact e2
def dueD : Option (Nat × Str) → D
  | none => .non
  | some (i, s) => .lst [.int (i : Int), .str s]
theorem dueL {ms : List Mk} (h : ∀ m ∈ ms, MkOk m) {s0 s1 s3 s5 s7 s8 : Slot} : ∀ (m n : Nat) (o : Option (Nat × Str)) (s4 : Slot), n + m = ms.length → ∃ u4, forL (gN 4) B__law_refused_1 (rng n m) [s0, s1, .val (.lst (ms.map mk)), s3, s4, s5, .val (dueD o), s7, s8] w = .nx [s0, s1, .val (.lst (ms.map mk)), s3, u4, s5, .val (dueD (match o with | none => fb n (ms.drop n) | some p => some p)), s7, s8] w
  | 0, n, o, s4, hn => ⟨s4, by
    rw [List.drop_eq_nil_of_le (by omega)]
    cases o <;> rfl⟩
  | m + 1, n, o, s4, hn => by
    have hlt : n < ms.length := by omega
    have hd : ms.drop n = ms[n] :: ms.drop (n + 1) := List.drop_eq_getElem_cons hlt
    have hm := h ms[n] (List.getElem_mem hlt)
    have it : itemAt (ms.map mk) (n : Int) = some (mk ms[n]) := itemMap (List.getElem?_eq_getElem hlt)
    have tr : ∀ w : Wd, truth (.str (ms[n].1)) w = .ok ((ms[n].1.length : Int) != 0) w := fun w => by
      have := hm.ln
      unfold truth
      simp only [if_w]
      rw [if_pos (by unfold line; omega)]; rfl
    show ∃ u4, forL (gN 4) B__law_refused_1 (.int (n : Int) :: rng (n + 1) m) _ w = _
    cases o with
    | some p =>
      obtain ⟨u4, e⟩ := dueL h (s0 := s0) (s1 := s1) (s3 := s3) (s5 := s5) (s7 := s7) (s8 := s8) m (n + 1) (some p) (.val (.int n)) (by omega)
      refine ⟨u4, ?_⟩
      simp only [bind_w, bindK_ok, bindK_ex, ret_w, fail_w, eVar_w, varK_v, eC_w, eUn_w, eBin_w, evs0_w, evs1_w, eTup_w, eLst_w, eCall_w, eIf_w, ifE_t, ifE_f, eAnd_w, andE_t, andE_f, eOr_w, orE_t, orE_f, eNot_w, eChain_w, chainM_w, eJs_w, js0, js1, chainK_t, chainK_f, eNew_w, eHand_w, handK_ok, eXf_w, tVal_w, tTru_w, tNot_w, tYes_w, tAnd_w, tOr_w, andT_t, andT_f, orT_t, orT_f, boolOf_w, truth_bl, truth_int, truth_non, truth_lst, truth_tup, truth_frz, add_int, sub_int, neg_int, lt_int, le_int, gt_int, ge_int, isNon_w, notNon_w, is_w, isNot_w, int_w, abs_w, gcd_w, tup_w, tupt_w, list_w, listl_w, len_lst, len_tup, len_frz, un1_w, bin2_w, eq_int, ne_int, eq_pair, ne_pair, ix_lst, ix_frz, ix_tup, ix_hand, itK_v, item0, item1, item2, item3, isi_int_i, isi_int_b, isi_int_n, isi_int_s, isi_int_t, isi_int_l, isi_int_f, isi_int_h, isi_bool_i, isi_bool_b, isi_bool_n, isi_bool_s, isi_bool_t, isi_bool_l, isi_bool_f, isi_bool_h, isi_str_i, isi_str_b, isi_str_n, isi_str_s, isi_str_t, isi_str_l, isi_str_f, isi_str_h, isi_tuple_i, isi_tuple_b, isi_tuple_n, isi_tuple_s, isi_tuple_t, isi_tuple_l, isi_tuple_f, isi_tuple_h, isi_list_i, isi_list_b, isi_list_n, isi_list_s, isi_list_t, isi_list_l, isi_list_f, isi_list_h, isi_dict_i, isi_dict_b, isi_dict_n, isi_dict_s, isi_dict_t, isi_dict_l, isi_dict_f, isi_dict_h, sSeq_w, seqK_nx, seqK_rt, seqK_bk, seqK_ct, seqK_ex, onK_ok, onK_ex, sNext_w, sSet_w, sOwn_w, sFrz_w, frzK_v, sApp_w, sExpr_w, sRet_w, sRetN_w, sIf_w, ifK_t, ifK_f, sBrk_w, sCnt_w, sPar_w, parK_v, sUnp_w, unpK_2, unpK_3, unpK_4, sHSet_w, hsK_0, hsK_1, hsK_2, hsK_3, sRaise_w, sFor_w, iSeq_w, seqOf_lst, seqOf_tup, seqOf_frz, iRng_w, loopK_nx, loopK_ct, loopK_bk, loopK_rt, for0, forN, loopF_nx, loopF_ct, loopF_bk, loopF_rt, loopF_ex, sWhile_w, nLc_w, lcB_ok, lc0, lcN, lcT_t, lcT_f, lcE_v, wipeE0, wipeE1, sTry_w, tryK_nx, tryK_rt, suiteK_nx, suiteK_rt, wipe0, wipe_v, wipe_n, wipe_o, call_w, callK_nx, callK_rt, callK_ex, vals0, vals1, List.length_cons, List.length_nil, List.replicate_succ, List.replicate_zero, List.cons_append, List.nil_append, List.getElem?_cons_zero, List.getElem?_cons_succ, List.set_cons_zero, List.set_cons_succ, Nat.reduceSub, Nat.reduceAdd, Nat.zero_add, Bool.not_true, Bool.not_false, Bool.and_self, Bool.and_true, Bool.and_false, B__law_refused_1_w, dueD, D.isNon]
      exact e
    | none =>
      rcases hm.is with ⟨z, _⟩ | ⟨z, _⟩
      · obtain ⟨u4, e⟩ := dueL h (s0 := s0) (s1 := s1) (s3 := s3) (s5 := s5) (s7 := s7) (s8 := s8) m (n + 1) none (.val (.int n)) (by omega)
        refine ⟨u4, ?_⟩
        have zz : ((ms[n].1.length : Int) != 0) = false := by rw [z]; rfl
        rw [hd]
        simp only [fb, if_pos z]
        simp only [bind_w, bindK_ok, bindK_ex, ret_w, fail_w, eVar_w, varK_v, eC_w, eUn_w, eBin_w, evs0_w, evs1_w, eTup_w, eLst_w, eCall_w, eIf_w, ifE_t, ifE_f, eAnd_w, andE_t, andE_f, eOr_w, orE_t, orE_f, eNot_w, eChain_w, chainM_w, eJs_w, js0, js1, chainK_t, chainK_f, eNew_w, eHand_w, handK_ok, eXf_w, tVal_w, tTru_w, tNot_w, tYes_w, tAnd_w, tOr_w, andT_t, andT_f, orT_t, orT_f, boolOf_w, truth_bl, truth_int, truth_non, truth_lst, truth_tup, truth_frz, add_int, sub_int, neg_int, lt_int, le_int, gt_int, ge_int, isNon_w, notNon_w, is_w, isNot_w, int_w, abs_w, gcd_w, tup_w, tupt_w, list_w, listl_w, len_lst, len_tup, len_frz, un1_w, bin2_w, eq_int, ne_int, eq_pair, ne_pair, ix_lst, ix_frz, ix_tup, ix_hand, itK_v, item0, item1, item2, item3, isi_int_i, isi_int_b, isi_int_n, isi_int_s, isi_int_t, isi_int_l, isi_int_f, isi_int_h, isi_bool_i, isi_bool_b, isi_bool_n, isi_bool_s, isi_bool_t, isi_bool_l, isi_bool_f, isi_bool_h, isi_str_i, isi_str_b, isi_str_n, isi_str_s, isi_str_t, isi_str_l, isi_str_f, isi_str_h, isi_tuple_i, isi_tuple_b, isi_tuple_n, isi_tuple_s, isi_tuple_t, isi_tuple_l, isi_tuple_f, isi_tuple_h, isi_list_i, isi_list_b, isi_list_n, isi_list_s, isi_list_t, isi_list_l, isi_list_f, isi_list_h, isi_dict_i, isi_dict_b, isi_dict_n, isi_dict_s, isi_dict_t, isi_dict_l, isi_dict_f, isi_dict_h, sSeq_w, seqK_nx, seqK_rt, seqK_bk, seqK_ct, seqK_ex, onK_ok, onK_ex, sNext_w, sSet_w, sOwn_w, sFrz_w, frzK_v, sApp_w, sExpr_w, sRet_w, sRetN_w, sIf_w, ifK_t, ifK_f, sBrk_w, sCnt_w, sPar_w, parK_v, sUnp_w, unpK_2, unpK_3, unpK_4, sHSet_w, hsK_0, hsK_1, hsK_2, hsK_3, sRaise_w, sFor_w, iSeq_w, seqOf_lst, seqOf_tup, seqOf_frz, iRng_w, loopK_nx, loopK_ct, loopK_bk, loopK_rt, for0, forN, loopF_nx, loopF_ct, loopF_bk, loopF_rt, loopF_ex, sWhile_w, nLc_w, lcB_ok, lc0, lcN, lcT_t, lcT_f, lcE_v, wipeE0, wipeE1, sTry_w, tryK_nx, tryK_rt, suiteK_nx, suiteK_rt, wipe0, wipe_v, wipe_n, wipe_o, call_w, callK_nx, callK_rt, callK_ex, vals0, vals1, List.length_cons, List.length_nil, List.replicate_succ, List.replicate_zero, List.cons_append, List.nil_append, List.getElem?_cons_zero, List.getElem?_cons_succ, List.set_cons_zero, List.set_cons_succ, Nat.reduceSub, Nat.reduceAdd, Nat.zero_add, Bool.not_true, Bool.not_false, Bool.and_self, Bool.and_true, Bool.and_false, B__law_refused_1_w, dueD, D.isNon, it, tr, zz]
        exact e
      · obtain ⟨u4, e⟩ := dueL h (s0 := s0) (s1 := s1) (s3 := s3) (s5 := s5) (s7 := s7) (s8 := s8) m (n + 1) (some (n, ms[n].1)) (.val (.int n)) (by omega)
        refine ⟨u4, ?_⟩
        have zz : ((ms[n].1.length : Int) != 0) = true := by
          have : (ms[n].1.length : Int) ≠ 0 := by omega
          simpa using this
        rw [hd]
        simp only [fb, if_neg z]
        simp only [bind_w, bindK_ok, bindK_ex, ret_w, fail_w, eVar_w, varK_v, eC_w, eUn_w, eBin_w, evs0_w, evs1_w, eTup_w, eLst_w, eCall_w, eIf_w, ifE_t, ifE_f, eAnd_w, andE_t, andE_f, eOr_w, orE_t, orE_f, eNot_w, eChain_w, chainM_w, eJs_w, js0, js1, chainK_t, chainK_f, eNew_w, eHand_w, handK_ok, eXf_w, tVal_w, tTru_w, tNot_w, tYes_w, tAnd_w, tOr_w, andT_t, andT_f, orT_t, orT_f, boolOf_w, truth_bl, truth_int, truth_non, truth_lst, truth_tup, truth_frz, add_int, sub_int, neg_int, lt_int, le_int, gt_int, ge_int, isNon_w, notNon_w, is_w, isNot_w, int_w, abs_w, gcd_w, tup_w, tupt_w, list_w, listl_w, len_lst, len_tup, len_frz, un1_w, bin2_w, eq_int, ne_int, eq_pair, ne_pair, ix_lst, ix_frz, ix_tup, ix_hand, itK_v, item0, item1, item2, item3, isi_int_i, isi_int_b, isi_int_n, isi_int_s, isi_int_t, isi_int_l, isi_int_f, isi_int_h, isi_bool_i, isi_bool_b, isi_bool_n, isi_bool_s, isi_bool_t, isi_bool_l, isi_bool_f, isi_bool_h, isi_str_i, isi_str_b, isi_str_n, isi_str_s, isi_str_t, isi_str_l, isi_str_f, isi_str_h, isi_tuple_i, isi_tuple_b, isi_tuple_n, isi_tuple_s, isi_tuple_t, isi_tuple_l, isi_tuple_f, isi_tuple_h, isi_list_i, isi_list_b, isi_list_n, isi_list_s, isi_list_t, isi_list_l, isi_list_f, isi_list_h, isi_dict_i, isi_dict_b, isi_dict_n, isi_dict_s, isi_dict_t, isi_dict_l, isi_dict_f, isi_dict_h, sSeq_w, seqK_nx, seqK_rt, seqK_bk, seqK_ct, seqK_ex, onK_ok, onK_ex, sNext_w, sSet_w, sOwn_w, sFrz_w, frzK_v, sApp_w, sExpr_w, sRet_w, sRetN_w, sIf_w, ifK_t, ifK_f, sBrk_w, sCnt_w, sPar_w, parK_v, sUnp_w, unpK_2, unpK_3, unpK_4, sHSet_w, hsK_0, hsK_1, hsK_2, hsK_3, sRaise_w, sFor_w, iSeq_w, seqOf_lst, seqOf_tup, seqOf_frz, iRng_w, loopK_nx, loopK_ct, loopK_bk, loopK_rt, for0, forN, loopF_nx, loopF_ct, loopF_bk, loopF_rt, loopF_ex, sWhile_w, nLc_w, lcB_ok, lc0, lcN, lcT_t, lcT_f, lcE_v, wipeE0, wipeE1, sTry_w, tryK_nx, tryK_rt, suiteK_nx, suiteK_rt, wipe0, wipe_v, wipe_n, wipe_o, call_w, callK_nx, callK_rt, callK_ex, vals0, vals1, List.length_cons, List.length_nil, List.replicate_succ, List.replicate_zero, List.cons_append, List.nil_append, List.getElem?_cons_zero, List.getElem?_cons_succ, List.set_cons_zero, List.set_cons_succ, Nat.reduceSub, Nat.reduceAdd, Nat.zero_add, Bool.not_true, Bool.not_false, Bool.and_self, Bool.and_true, Bool.and_false, B__law_refused_1_w, dueD, D.isNon, it, tr, zz]
        exact e
end K07

namespace K07
open PySem FL
variable {w : Wd}
theorem okS_from : ∀ (ts : List Str) (k : Nat) (acc : Str), okS acc → (∀ t ∈ ts, okS t) → okS (textFrom k acc ts)
  | [], _, _, h, _ => h
  | t :: ts, k, acc, h, g => okS_from ts (k + 1) _ (okS_app (okS_app h (okS_of _)) (g t (List.mem_cons_self ..))) fun y hy => g y (List.mem_cons_of_mem _ hy)
theorem okS_list {ts : List Str} (h : ∀ t ∈ ts, okS t) : okS (listText ts) := okS_app (okS_from ts 0 _ (okS_of "[") h) (okS_of "]")
theorem okS_tup2 {a b : Str} (h : okS a) (g : okS b) : okS (tupleText [a, b]) := okS_app (okS_app (okS_of "(") (okS_app (okS_app h (okS_of ", ")) g)) (okS_of _)
theorem okS_q (q : Rat) : okS (rq q).py.shown := okS_tup2 (okS_of _) (okS_of _)
theorem okS_list2 {a b : Str} (h : okS a) (g : okS b) : okS (listText [a, b]) := okS_list fun t ht => by
  simp only [List.mem_cons, List.not_mem_nil, or_false] at ht
  rcases ht with rfl | rfl
  · exact h
  · exact g
theorem okS_g (l : Ld) : okS (gv l).py.shown := okS_list2 (okS_q _) (okS_list2 (okS_q _) (okS_q _))
theorem okS_gs (ls : List Ld) : okS (D.lst (ls.map gv)).py.shown := by
  rw [py_list]
  refine okS_list fun t ht => ?_
  obtain ⟨d, hd, rfl⟩ := List.mem_map.mp ht
  obtain ⟨l, hm, rfl⟩ := List.mem_map.mp hd
  exact okS_g l
/-! ### what is refused -/
theorem refused_w {ls : List Ld} (hi : HandI w) (h : ∀ l ∈ ls, LdOk l) (hl : ls.length ≤ 8) : ∃ w', F__law_refused [.hand, .lst (ls.map ld)] w = .ok (.bl true) w' ∧ HandI w' := by
  obtain ⟨k, w1, e1, k0, k9, h1⟩ := take_w (many := 3) (k := 2) hi (by decide) (by unfold Sz; decide) (by decide)
  have ok0 : ∀ m ∈ ls.map (fun l => (("" : Str), ld l)), MkOk m := fun m hm => by
    obtain ⟨l, hl, rfl⟩ := List.mem_map.mp hm
    exact ⟨rfl, by show okS ""; unfold okS; decide +kernel, by show ("" : Str).length ≤ 100; decide +kernel, .inl ⟨by show ("" : Str).length = 0; decide +kernel, l, good_ld (h l hl)⟩⟩
  obtain ⟨ms, w2, u3, u4, u5, e2, h2, okm, n2⟩ := putL (s1 := .val (.lst (ls.map ld))) (s6 := .none) (s7 := .none) (s8 := .none) k.toNat 0 (ls.map fun l => (("" : Str), ld l)) .none .none .none w1 h1 ok0 (by rw [List.length_map]; omega)
  rw [List.map_map] at e2
  have ll : (ls.map ld).length ≤ line := by rw [List.length_map]; unfold line; omega
  have lm : (ms.map mk).length ≤ line := by rw [List.length_map]; rw [List.length_map] at n2; unfold line; omega
  rw [List.length_map] at n2
  obtain ⟨v4, e3⟩ := dueL (w := w2) okm (s0 := .val .hand) (s1 := .val (.lst (ls.map ld))) (s3 := u3) (s5 := u5) (s7 := .none) (s8 := .none) ms.length 0 (if 8 < ms.length then some (0, "many") else none) u4 (by omega)
  have rg := range0 (w := w2) (ms.map mk).length (by rw [List.length_map]; omega)
  have rk := range0i (w := w1) k0 (by omega)
  refine ⟨w2, ?_, h2⟩
  unfold F__law_refused
  simp only [bind_w, bindK_ok, bindK_ex, ret_w, fail_w, eVar_w, varK_v, eC_w, eUn_w, eBin_w, evs0_w, evs1_w, eTup_w, eLst_w, eCall_w, eIf_w, ifE_t, ifE_f, eAnd_w, andE_t, andE_f, eOr_w, orE_t, orE_f, eNot_w, eChain_w, chainM_w, eJs_w, js0, js1, chainK_t, chainK_f, eNew_w, eHand_w, handK_ok, eXf_w, tVal_w, tTru_w, tNot_w, tYes_w, tAnd_w, tOr_w, andT_t, andT_f, orT_t, orT_f, boolOf_w, truth_bl, truth_int, truth_non, truth_lst, truth_tup, truth_frz, add_int, sub_int, neg_int, lt_int, le_int, gt_int, ge_int, isNon_w, notNon_w, is_w, isNot_w, int_w, abs_w, gcd_w, tup_w, tupt_w, list_w, listl_w, len_lst, len_tup, len_frz, un1_w, bin2_w, eq_int, ne_int, eq_pair, ne_pair, ix_lst, ix_frz, ix_tup, ix_hand, itK_v, item0, item1, item2, item3, isi_int_i, isi_int_b, isi_int_n, isi_int_s, isi_int_t, isi_int_l, isi_int_f, isi_int_h, isi_bool_i, isi_bool_b, isi_bool_n, isi_bool_s, isi_bool_t, isi_bool_l, isi_bool_f, isi_bool_h, isi_str_i, isi_str_b, isi_str_n, isi_str_s, isi_str_t, isi_str_l, isi_str_f, isi_str_h, isi_tuple_i, isi_tuple_b, isi_tuple_n, isi_tuple_s, isi_tuple_t, isi_tuple_l, isi_tuple_f, isi_tuple_h, isi_list_i, isi_list_b, isi_list_n, isi_list_s, isi_list_t, isi_list_l, isi_list_f, isi_list_h, isi_dict_i, isi_dict_b, isi_dict_n, isi_dict_s, isi_dict_t, isi_dict_l, isi_dict_f, isi_dict_h, sSeq_w, seqK_nx, seqK_rt, seqK_bk, seqK_ct, seqK_ex, onK_ok, onK_ex, sNext_w, sSet_w, sOwn_w, sFrz_w, frzK_v, sApp_w, sExpr_w, sRet_w, sRetN_w, sIf_w, ifK_t, ifK_f, sBrk_w, sCnt_w, sPar_w, parK_v, sUnp_w, unpK_2, unpK_3, unpK_4, sHSet_w, hsK_0, hsK_1, hsK_2, hsK_3, sRaise_w, sFor_w, iSeq_w, seqOf_lst, seqOf_tup, seqOf_frz, iRng_w, loopK_nx, loopK_ct, loopK_bk, loopK_rt, for0, forN, loopF_nx, loopF_ct, loopF_bk, loopF_rt, loopF_ex, sWhile_w, nLc_w, lcB_ok, lc0, lcN, lcT_t, lcT_f, lcE_v, wipeE0, wipeE1, sTry_w, tryK_nx, tryK_rt, suiteK_nx, suiteK_rt, wipe0, wipe_v, wipe_n, wipe_o, call_w, callK_nx, callK_rt, callK_ex, vals0, vals1, List.length_cons, List.length_nil, List.replicate_succ, List.replicate_zero, List.cons_append, List.nil_append, List.getElem?_cons_zero, List.getElem?_cons_succ, List.set_cons_zero, List.set_cons_succ, Nat.reduceSub, Nat.reduceAdd, Nat.zero_add, Bool.not_true, Bool.not_false, Bool.and_self, Bool.and_true, Bool.and_false, lcM_v _ _ _ _ ll]
  rw [lcMap (g := fun l => mk ("", ld l)) 5 _ ls (fun l hm => by simp only [bind_w, bindK_ok, bindK_ex, ret_w, fail_w, eVar_w, varK_v, eC_w, eUn_w, eBin_w, evs0_w, evs1_w, eTup_w, eLst_w, eCall_w, eIf_w, ifE_t, ifE_f, eAnd_w, andE_t, andE_f, eOr_w, orE_t, orE_f, eNot_w, eChain_w, chainM_w, eJs_w, js0, js1, chainK_t, chainK_f, eNew_w, eHand_w, handK_ok, eXf_w, tVal_w, tTru_w, tNot_w, tYes_w, tAnd_w, tOr_w, andT_t, andT_f, orT_t, orT_f, boolOf_w, truth_bl, truth_int, truth_non, truth_lst, truth_tup, truth_frz, add_int, sub_int, neg_int, lt_int, le_int, gt_int, ge_int, isNon_w, notNon_w, is_w, isNot_w, int_w, abs_w, gcd_w, tup_w, tupt_w, list_w, listl_w, len_lst, len_tup, len_frz, un1_w, bin2_w, eq_int, ne_int, eq_pair, ne_pair, ix_lst, ix_frz, ix_tup, ix_hand, itK_v, item0, item1, item2, item3, isi_int_i, isi_int_b, isi_int_n, isi_int_s, isi_int_t, isi_int_l, isi_int_f, isi_int_h, isi_bool_i, isi_bool_b, isi_bool_n, isi_bool_s, isi_bool_t, isi_bool_l, isi_bool_f, isi_bool_h, isi_str_i, isi_str_b, isi_str_n, isi_str_s, isi_str_t, isi_str_l, isi_str_f, isi_str_h, isi_tuple_i, isi_tuple_b, isi_tuple_n, isi_tuple_s, isi_tuple_t, isi_tuple_l, isi_tuple_f, isi_tuple_h, isi_list_i, isi_list_b, isi_list_n, isi_list_s, isi_list_t, isi_list_l, isi_list_f, isi_list_h, isi_dict_i, isi_dict_b, isi_dict_n, isi_dict_s, isi_dict_t, isi_dict_l, isi_dict_f, isi_dict_h, sSeq_w, seqK_nx, seqK_rt, seqK_bk, seqK_ct, seqK_ex, onK_ok, onK_ex, sNext_w, sSet_w, sOwn_w, sFrz_w, frzK_v, sApp_w, sExpr_w, sRet_w, sRetN_w, sIf_w, ifK_t, ifK_f, sBrk_w, sCnt_w, sPar_w, parK_v, sUnp_w, unpK_2, unpK_3, unpK_4, sHSet_w, hsK_0, hsK_1, hsK_2, hsK_3, sRaise_w, sFor_w, iSeq_w, seqOf_lst, seqOf_tup, seqOf_frz, iRng_w, loopK_nx, loopK_ct, loopK_bk, loopK_rt, for0, forN, loopF_nx, loopF_ct, loopF_bk, loopF_rt, loopF_ex, sWhile_w, nLc_w, lcB_ok, lc0, lcN, lcT_t, lcT_f, lcE_v, wipeE0, wipeE1, sTry_w, tryK_nx, tryK_rt, suiteK_nx, suiteK_rt, wipe0, wipe_v, wipe_n, wipe_o, call_w, callK_nx, callK_rt, callK_ex, vals0, vals1, List.length_cons, List.length_nil, List.replicate_succ, List.replicate_zero, List.cons_append, List.nil_append, List.getElem?_cons_zero, List.getElem?_cons_succ, List.set_cons_zero, List.set_cons_succ, Nat.reduceSub, Nat.reduceAdd, Nat.zero_add, Bool.not_true, Bool.not_false, Bool.and_self, Bool.and_true, Bool.and_false])]
  simp only [bind_w, bindK_ok, bindK_ex, ret_w, fail_w, eVar_w, varK_v, eC_w, eUn_w, eBin_w, evs0_w, evs1_w, eTup_w, eLst_w, eCall_w, eIf_w, ifE_t, ifE_f, eAnd_w, andE_t, andE_f, eOr_w, orE_t, orE_f, eNot_w, eChain_w, chainM_w, eJs_w, js0, js1, chainK_t, chainK_f, eNew_w, eHand_w, handK_ok, eXf_w, tVal_w, tTru_w, tNot_w, tYes_w, tAnd_w, tOr_w, andT_t, andT_f, orT_t, orT_f, boolOf_w, truth_bl, truth_int, truth_non, truth_lst, truth_tup, truth_frz, add_int, sub_int, neg_int, lt_int, le_int, gt_int, ge_int, isNon_w, notNon_w, is_w, isNot_w, int_w, abs_w, gcd_w, tup_w, tupt_w, list_w, listl_w, len_lst, len_tup, len_frz, un1_w, bin2_w, eq_int, ne_int, eq_pair, ne_pair, ix_lst, ix_frz, ix_tup, ix_hand, itK_v, item0, item1, item2, item3, isi_int_i, isi_int_b, isi_int_n, isi_int_s, isi_int_t, isi_int_l, isi_int_f, isi_int_h, isi_bool_i, isi_bool_b, isi_bool_n, isi_bool_s, isi_bool_t, isi_bool_l, isi_bool_f, isi_bool_h, isi_str_i, isi_str_b, isi_str_n, isi_str_s, isi_str_t, isi_str_l, isi_str_f, isi_str_h, isi_tuple_i, isi_tuple_b, isi_tuple_n, isi_tuple_s, isi_tuple_t, isi_tuple_l, isi_tuple_f, isi_tuple_h, isi_list_i, isi_list_b, isi_list_n, isi_list_s, isi_list_t, isi_list_l, isi_list_f, isi_list_h, isi_dict_i, isi_dict_b, isi_dict_n, isi_dict_s, isi_dict_t, isi_dict_l, isi_dict_f, isi_dict_h, sSeq_w, seqK_nx, seqK_rt, seqK_bk, seqK_ct, seqK_ex, onK_ok, onK_ex, sNext_w, sSet_w, sOwn_w, sFrz_w, frzK_v, sApp_w, sExpr_w, sRet_w, sRetN_w, sIf_w, ifK_t, ifK_f, sBrk_w, sCnt_w, sPar_w, parK_v, sUnp_w, unpK_2, unpK_3, unpK_4, sHSet_w, hsK_0, hsK_1, hsK_2, hsK_3, sRaise_w, sFor_w, iSeq_w, seqOf_lst, seqOf_tup, seqOf_frz, iRng_w, loopK_nx, loopK_ct, loopK_bk, loopK_rt, for0, forN, loopF_nx, loopF_ct, loopF_bk, loopF_rt, loopF_ex, sWhile_w, nLc_w, lcB_ok, lc0, lcN, lcT_t, lcT_f, lcE_v, wipeE0, wipeE1, sTry_w, tryK_nx, tryK_rt, suiteK_nx, suiteK_rt, wipe0, wipe_v, wipe_n, wipe_o, call_w, callK_nx, callK_rt, callK_ex, vals0, vals1, List.length_cons, List.length_nil, List.replicate_succ, List.replicate_zero, List.cons_append, List.nil_append, List.getElem?_cons_zero, List.getElem?_cons_succ, List.set_cons_zero, List.set_cons_succ, Nat.reduceSub, Nat.reduceAdd, Nat.zero_add, Bool.not_true, Bool.not_false, Bool.and_self, Bool.and_true, Bool.and_false, e1, rk]
  have e2' := e2
  rw [show (List.map (mk ∘ fun l => (("" : Str), ld l)) ls) = ls.map (fun l => mk ("", ld l)) from rfl] at e2'
  rw [e2']
  by_cases h8 : 8 < ms.length
  · have l8 : decide ((8 : Int) < ((ms.map mk).length : Int)) = true := decide_eq_true (by rw [List.length_map]; omega)
    rw [if_pos h8] at e3
    have sd : ∀ w, F__law_try [.lst (ms.map fun m => m.2)] w = .ok (.lst [.int 0, .str "many"]) w := fun w => try_many (.inl rfl) (by rw [List.length_map]; exact h8)
    have es : ∀ w : Wd, eqD (.lst [.int 0, .str "many"]) (.lst [.int 0, .str "many"]) w = .ok (.bl true) w := fun w => eq_same (by decide +kernel)
    simp only [bind_w, bindK_ok, bindK_ex, ret_w, fail_w, eVar_w, varK_v, eC_w, eUn_w, eBin_w, evs0_w, evs1_w, eTup_w, eLst_w, eCall_w, eIf_w, ifE_t, ifE_f, eAnd_w, andE_t, andE_f, eOr_w, orE_t, orE_f, eNot_w, eChain_w, chainM_w, eJs_w, js0, js1, chainK_t, chainK_f, eNew_w, eHand_w, handK_ok, eXf_w, tVal_w, tTru_w, tNot_w, tYes_w, tAnd_w, tOr_w, andT_t, andT_f, orT_t, orT_f, boolOf_w, truth_bl, truth_int, truth_non, truth_lst, truth_tup, truth_frz, add_int, sub_int, neg_int, lt_int, le_int, gt_int, ge_int, isNon_w, notNon_w, is_w, isNot_w, int_w, abs_w, gcd_w, tup_w, tupt_w, list_w, listl_w, len_lst, len_tup, len_frz, un1_w, bin2_w, eq_int, ne_int, eq_pair, ne_pair, ix_lst, ix_frz, ix_tup, ix_hand, itK_v, item0, item1, item2, item3, isi_int_i, isi_int_b, isi_int_n, isi_int_s, isi_int_t, isi_int_l, isi_int_f, isi_int_h, isi_bool_i, isi_bool_b, isi_bool_n, isi_bool_s, isi_bool_t, isi_bool_l, isi_bool_f, isi_bool_h, isi_str_i, isi_str_b, isi_str_n, isi_str_s, isi_str_t, isi_str_l, isi_str_f, isi_str_h, isi_tuple_i, isi_tuple_b, isi_tuple_n, isi_tuple_s, isi_tuple_t, isi_tuple_l, isi_tuple_f, isi_tuple_h, isi_list_i, isi_list_b, isi_list_n, isi_list_s, isi_list_t, isi_list_l, isi_list_f, isi_list_h, isi_dict_i, isi_dict_b, isi_dict_n, isi_dict_s, isi_dict_t, isi_dict_l, isi_dict_f, isi_dict_h, sSeq_w, seqK_nx, seqK_rt, seqK_bk, seqK_ct, seqK_ex, onK_ok, onK_ex, sNext_w, sSet_w, sOwn_w, sFrz_w, frzK_v, sApp_w, sExpr_w, sRet_w, sRetN_w, sIf_w, ifK_t, ifK_f, sBrk_w, sCnt_w, sPar_w, parK_v, sUnp_w, unpK_2, unpK_3, unpK_4, sHSet_w, hsK_0, hsK_1, hsK_2, hsK_3, sRaise_w, sFor_w, iSeq_w, seqOf_lst, seqOf_tup, seqOf_frz, iRng_w, loopK_nx, loopK_ct, loopK_bk, loopK_rt, for0, forN, loopF_nx, loopF_ct, loopF_bk, loopF_rt, loopF_ex, sWhile_w, nLc_w, lcB_ok, lc0, lcN, lcT_t, lcT_f, lcE_v, wipeE0, wipeE1, sTry_w, tryK_nx, tryK_rt, suiteK_nx, suiteK_rt, wipe0, wipe_v, wipe_n, wipe_o, call_w, callK_nx, callK_rt, callK_ex, vals0, vals1, List.length_cons, List.length_nil, List.replicate_succ, List.replicate_zero, List.cons_append, List.nil_append, List.getElem?_cons_zero, List.getElem?_cons_succ, List.set_cons_zero, List.set_cons_succ, Nat.reduceSub, Nat.reduceAdd, Nat.zero_add, Bool.not_true, Bool.not_false, Bool.and_self, Bool.and_true, Bool.and_false, l8, rg]
    rw [List.length_map]
    simp only [dueD] at e3
    rw [show (((0 : Nat) : Int)) = 0 from rfl] at e3
    rw [e3]
    simp only [bind_w, bindK_ok, bindK_ex, ret_w, fail_w, eVar_w, varK_v, eC_w, eUn_w, eBin_w, evs0_w, evs1_w, eTup_w, eLst_w, eCall_w, eIf_w, ifE_t, ifE_f, eAnd_w, andE_t, andE_f, eOr_w, orE_t, orE_f, eNot_w, eChain_w, chainM_w, eJs_w, js0, js1, chainK_t, chainK_f, eNew_w, eHand_w, handK_ok, eXf_w, tVal_w, tTru_w, tNot_w, tYes_w, tAnd_w, tOr_w, andT_t, andT_f, orT_t, orT_f, boolOf_w, truth_bl, truth_int, truth_non, truth_lst, truth_tup, truth_frz, add_int, sub_int, neg_int, lt_int, le_int, gt_int, ge_int, isNon_w, notNon_w, is_w, isNot_w, int_w, abs_w, gcd_w, tup_w, tupt_w, list_w, listl_w, len_lst, len_tup, len_frz, un1_w, bin2_w, eq_int, ne_int, eq_pair, ne_pair, ix_lst, ix_frz, ix_tup, ix_hand, itK_v, item0, item1, item2, item3, isi_int_i, isi_int_b, isi_int_n, isi_int_s, isi_int_t, isi_int_l, isi_int_f, isi_int_h, isi_bool_i, isi_bool_b, isi_bool_n, isi_bool_s, isi_bool_t, isi_bool_l, isi_bool_f, isi_bool_h, isi_str_i, isi_str_b, isi_str_n, isi_str_s, isi_str_t, isi_str_l, isi_str_f, isi_str_h, isi_tuple_i, isi_tuple_b, isi_tuple_n, isi_tuple_s, isi_tuple_t, isi_tuple_l, isi_tuple_f, isi_tuple_h, isi_list_i, isi_list_b, isi_list_n, isi_list_s, isi_list_t, isi_list_l, isi_list_f, isi_list_h, isi_dict_i, isi_dict_b, isi_dict_n, isi_dict_s, isi_dict_t, isi_dict_l, isi_dict_f, isi_dict_h, sSeq_w, seqK_nx, seqK_rt, seqK_bk, seqK_ct, seqK_ex, onK_ok, onK_ex, sNext_w, sSet_w, sOwn_w, sFrz_w, frzK_v, sApp_w, sExpr_w, sRet_w, sRetN_w, sIf_w, ifK_t, ifK_f, sBrk_w, sCnt_w, sPar_w, parK_v, sUnp_w, unpK_2, unpK_3, unpK_4, sHSet_w, hsK_0, hsK_1, hsK_2, hsK_3, sRaise_w, sFor_w, iSeq_w, seqOf_lst, seqOf_tup, seqOf_frz, iRng_w, loopK_nx, loopK_ct, loopK_bk, loopK_rt, for0, forN, loopF_nx, loopF_ct, loopF_bk, loopF_rt, loopF_ex, sWhile_w, nLc_w, lcB_ok, lc0, lcN, lcT_t, lcT_f, lcE_v, wipeE0, wipeE1, sTry_w, tryK_nx, tryK_rt, suiteK_nx, suiteK_rt, wipe0, wipe_v, wipe_n, wipe_o, call_w, callK_nx, callK_rt, callK_ex, vals0, vals1, List.length_cons, List.length_nil, List.replicate_succ, List.replicate_zero, List.cons_append, List.nil_append, List.getElem?_cons_zero, List.getElem?_cons_succ, List.set_cons_zero, List.set_cons_succ, Nat.reduceSub, Nat.reduceAdd, Nat.zero_add, Bool.not_true, Bool.not_false, Bool.and_self, Bool.and_true, Bool.and_false, lcM_v _ _ _ _ lm]
    rw [lcMap (g := fun m => m.2) 8 _ ms (fun m hm => by simp only [bind_w, bindK_ok, bindK_ex, ret_w, fail_w, eVar_w, varK_v, eC_w, eUn_w, eBin_w, evs0_w, evs1_w, eTup_w, eLst_w, eCall_w, eIf_w, ifE_t, ifE_f, eAnd_w, andE_t, andE_f, eOr_w, orE_t, orE_f, eNot_w, eChain_w, chainM_w, eJs_w, js0, js1, chainK_t, chainK_f, eNew_w, eHand_w, handK_ok, eXf_w, tVal_w, tTru_w, tNot_w, tYes_w, tAnd_w, tOr_w, andT_t, andT_f, orT_t, orT_f, boolOf_w, truth_bl, truth_int, truth_non, truth_lst, truth_tup, truth_frz, add_int, sub_int, neg_int, lt_int, le_int, gt_int, ge_int, isNon_w, notNon_w, is_w, isNot_w, int_w, abs_w, gcd_w, tup_w, tupt_w, list_w, listl_w, len_lst, len_tup, len_frz, un1_w, bin2_w, eq_int, ne_int, eq_pair, ne_pair, ix_lst, ix_frz, ix_tup, ix_hand, itK_v, item0, item1, item2, item3, isi_int_i, isi_int_b, isi_int_n, isi_int_s, isi_int_t, isi_int_l, isi_int_f, isi_int_h, isi_bool_i, isi_bool_b, isi_bool_n, isi_bool_s, isi_bool_t, isi_bool_l, isi_bool_f, isi_bool_h, isi_str_i, isi_str_b, isi_str_n, isi_str_s, isi_str_t, isi_str_l, isi_str_f, isi_str_h, isi_tuple_i, isi_tuple_b, isi_tuple_n, isi_tuple_s, isi_tuple_t, isi_tuple_l, isi_tuple_f, isi_tuple_h, isi_list_i, isi_list_b, isi_list_n, isi_list_s, isi_list_t, isi_list_l, isi_list_f, isi_list_h, isi_dict_i, isi_dict_b, isi_dict_n, isi_dict_s, isi_dict_t, isi_dict_l, isi_dict_f, isi_dict_h, sSeq_w, seqK_nx, seqK_rt, seqK_bk, seqK_ct, seqK_ex, onK_ok, onK_ex, sNext_w, sSet_w, sOwn_w, sFrz_w, frzK_v, sApp_w, sExpr_w, sRet_w, sRetN_w, sIf_w, ifK_t, ifK_f, sBrk_w, sCnt_w, sPar_w, parK_v, sUnp_w, unpK_2, unpK_3, unpK_4, sHSet_w, hsK_0, hsK_1, hsK_2, hsK_3, sRaise_w, sFor_w, iSeq_w, seqOf_lst, seqOf_tup, seqOf_frz, iRng_w, loopK_nx, loopK_ct, loopK_bk, loopK_rt, for0, forN, loopF_nx, loopF_ct, loopF_bk, loopF_rt, loopF_ex, sWhile_w, nLc_w, lcB_ok, lc0, lcN, lcT_t, lcT_f, lcE_v, wipeE0, wipeE1, sTry_w, tryK_nx, tryK_rt, suiteK_nx, suiteK_rt, wipe0, wipe_v, wipe_n, wipe_o, call_w, callK_nx, callK_rt, callK_ex, vals0, vals1, List.length_cons, List.length_nil, List.replicate_succ, List.replicate_zero, List.cons_append, List.nil_append, List.getElem?_cons_zero, List.getElem?_cons_succ, List.set_cons_zero, List.set_cons_succ, Nat.reduceSub, Nat.reduceAdd, Nat.zero_add, Bool.not_true, Bool.not_false, Bool.and_self, Bool.and_true, Bool.and_false])]
    simp only [bind_w, bindK_ok, bindK_ex, ret_w, fail_w, eVar_w, varK_v, eC_w, eUn_w, eBin_w, evs0_w, evs1_w, eTup_w, eLst_w, eCall_w, eIf_w, ifE_t, ifE_f, eAnd_w, andE_t, andE_f, eOr_w, orE_t, orE_f, eNot_w, eChain_w, chainM_w, eJs_w, js0, js1, chainK_t, chainK_f, eNew_w, eHand_w, handK_ok, eXf_w, tVal_w, tTru_w, tNot_w, tYes_w, tAnd_w, tOr_w, andT_t, andT_f, orT_t, orT_f, boolOf_w, truth_bl, truth_int, truth_non, truth_lst, truth_tup, truth_frz, add_int, sub_int, neg_int, lt_int, le_int, gt_int, ge_int, isNon_w, notNon_w, is_w, isNot_w, int_w, abs_w, gcd_w, tup_w, tupt_w, list_w, listl_w, len_lst, len_tup, len_frz, un1_w, bin2_w, eq_int, ne_int, eq_pair, ne_pair, ix_lst, ix_frz, ix_tup, ix_hand, itK_v, item0, item1, item2, item3, isi_int_i, isi_int_b, isi_int_n, isi_int_s, isi_int_t, isi_int_l, isi_int_f, isi_int_h, isi_bool_i, isi_bool_b, isi_bool_n, isi_bool_s, isi_bool_t, isi_bool_l, isi_bool_f, isi_bool_h, isi_str_i, isi_str_b, isi_str_n, isi_str_s, isi_str_t, isi_str_l, isi_str_f, isi_str_h, isi_tuple_i, isi_tuple_b, isi_tuple_n, isi_tuple_s, isi_tuple_t, isi_tuple_l, isi_tuple_f, isi_tuple_h, isi_list_i, isi_list_b, isi_list_n, isi_list_s, isi_list_t, isi_list_l, isi_list_f, isi_list_h, isi_dict_i, isi_dict_b, isi_dict_n, isi_dict_s, isi_dict_t, isi_dict_l, isi_dict_f, isi_dict_h, sSeq_w, seqK_nx, seqK_rt, seqK_bk, seqK_ct, seqK_ex, onK_ok, onK_ex, sNext_w, sSet_w, sOwn_w, sFrz_w, frzK_v, sApp_w, sExpr_w, sRet_w, sRetN_w, sIf_w, ifK_t, ifK_f, sBrk_w, sCnt_w, sPar_w, parK_v, sUnp_w, unpK_2, unpK_3, unpK_4, sHSet_w, hsK_0, hsK_1, hsK_2, hsK_3, sRaise_w, sFor_w, iSeq_w, seqOf_lst, seqOf_tup, seqOf_frz, iRng_w, loopK_nx, loopK_ct, loopK_bk, loopK_rt, for0, forN, loopF_nx, loopF_ct, loopF_bk, loopF_rt, loopF_ex, sWhile_w, nLc_w, lcB_ok, lc0, lcN, lcT_t, lcT_f, lcE_v, wipeE0, wipeE1, sTry_w, tryK_nx, tryK_rt, suiteK_nx, suiteK_rt, wipe0, wipe_v, wipe_n, wipe_o, call_w, callK_nx, callK_rt, callK_ex, vals0, vals1, List.length_cons, List.length_nil, List.replicate_succ, List.replicate_zero, List.cons_append, List.nil_append, List.getElem?_cons_zero, List.getElem?_cons_succ, List.set_cons_zero, List.set_cons_succ, Nat.reduceSub, Nat.reduceAdd, Nat.zero_add, Bool.not_true, Bool.not_false, Bool.and_self, Bool.and_true, Bool.and_false, sd, es, List.isEmpty_cons]
  · have l8 : decide ((8 : Int) < ((ms.map mk).length : Int)) = false := decide_eq_false (by rw [List.length_map]; omega)
    rw [if_neg h8] at e3
    simp only [bind_w, bindK_ok, bindK_ex, ret_w, fail_w, eVar_w, varK_v, eC_w, eUn_w, eBin_w, evs0_w, evs1_w, eTup_w, eLst_w, eCall_w, eIf_w, ifE_t, ifE_f, eAnd_w, andE_t, andE_f, eOr_w, orE_t, orE_f, eNot_w, eChain_w, chainM_w, eJs_w, js0, js1, chainK_t, chainK_f, eNew_w, eHand_w, handK_ok, eXf_w, tVal_w, tTru_w, tNot_w, tYes_w, tAnd_w, tOr_w, andT_t, andT_f, orT_t, orT_f, boolOf_w, truth_bl, truth_int, truth_non, truth_lst, truth_tup, truth_frz, add_int, sub_int, neg_int, lt_int, le_int, gt_int, ge_int, isNon_w, notNon_w, is_w, isNot_w, int_w, abs_w, gcd_w, tup_w, tupt_w, list_w, listl_w, len_lst, len_tup, len_frz, un1_w, bin2_w, eq_int, ne_int, eq_pair, ne_pair, ix_lst, ix_frz, ix_tup, ix_hand, itK_v, item0, item1, item2, item3, isi_int_i, isi_int_b, isi_int_n, isi_int_s, isi_int_t, isi_int_l, isi_int_f, isi_int_h, isi_bool_i, isi_bool_b, isi_bool_n, isi_bool_s, isi_bool_t, isi_bool_l, isi_bool_f, isi_bool_h, isi_str_i, isi_str_b, isi_str_n, isi_str_s, isi_str_t, isi_str_l, isi_str_f, isi_str_h, isi_tuple_i, isi_tuple_b, isi_tuple_n, isi_tuple_s, isi_tuple_t, isi_tuple_l, isi_tuple_f, isi_tuple_h, isi_list_i, isi_list_b, isi_list_n, isi_list_s, isi_list_t, isi_list_l, isi_list_f, isi_list_h, isi_dict_i, isi_dict_b, isi_dict_n, isi_dict_s, isi_dict_t, isi_dict_l, isi_dict_f, isi_dict_h, sSeq_w, seqK_nx, seqK_rt, seqK_bk, seqK_ct, seqK_ex, onK_ok, onK_ex, sNext_w, sSet_w, sOwn_w, sFrz_w, frzK_v, sApp_w, sExpr_w, sRet_w, sRetN_w, sIf_w, ifK_t, ifK_f, sBrk_w, sCnt_w, sPar_w, parK_v, sUnp_w, unpK_2, unpK_3, unpK_4, sHSet_w, hsK_0, hsK_1, hsK_2, hsK_3, sRaise_w, sFor_w, iSeq_w, seqOf_lst, seqOf_tup, seqOf_frz, iRng_w, loopK_nx, loopK_ct, loopK_bk, loopK_rt, for0, forN, loopF_nx, loopF_ct, loopF_bk, loopF_rt, loopF_ex, sWhile_w, nLc_w, lcB_ok, lc0, lcN, lcT_t, lcT_f, lcE_v, wipeE0, wipeE1, sTry_w, tryK_nx, tryK_rt, suiteK_nx, suiteK_rt, wipe0, wipe_v, wipe_n, wipe_o, call_w, callK_nx, callK_rt, callK_ex, vals0, vals1, List.length_cons, List.length_nil, List.replicate_succ, List.replicate_zero, List.cons_append, List.nil_append, List.getElem?_cons_zero, List.getElem?_cons_succ, List.set_cons_zero, List.set_cons_succ, Nat.reduceSub, Nat.reduceAdd, Nat.zero_add, Bool.not_true, Bool.not_false, Bool.and_self, Bool.and_true, Bool.and_false, l8, rg]
    rw [List.length_map]
    simp only [dueD] at e3
    rw [e3]
    simp only [bind_w, bindK_ok, bindK_ex, ret_w, fail_w, eVar_w, varK_v, eC_w, eUn_w, eBin_w, evs0_w, evs1_w, eTup_w, eLst_w, eCall_w, eIf_w, ifE_t, ifE_f, eAnd_w, andE_t, andE_f, eOr_w, orE_t, orE_f, eNot_w, eChain_w, chainM_w, eJs_w, js0, js1, chainK_t, chainK_f, eNew_w, eHand_w, handK_ok, eXf_w, tVal_w, tTru_w, tNot_w, tYes_w, tAnd_w, tOr_w, andT_t, andT_f, orT_t, orT_f, boolOf_w, truth_bl, truth_int, truth_non, truth_lst, truth_tup, truth_frz, add_int, sub_int, neg_int, lt_int, le_int, gt_int, ge_int, isNon_w, notNon_w, is_w, isNot_w, int_w, abs_w, gcd_w, tup_w, tupt_w, list_w, listl_w, len_lst, len_tup, len_frz, un1_w, bin2_w, eq_int, ne_int, eq_pair, ne_pair, ix_lst, ix_frz, ix_tup, ix_hand, itK_v, item0, item1, item2, item3, isi_int_i, isi_int_b, isi_int_n, isi_int_s, isi_int_t, isi_int_l, isi_int_f, isi_int_h, isi_bool_i, isi_bool_b, isi_bool_n, isi_bool_s, isi_bool_t, isi_bool_l, isi_bool_f, isi_bool_h, isi_str_i, isi_str_b, isi_str_n, isi_str_s, isi_str_t, isi_str_l, isi_str_f, isi_str_h, isi_tuple_i, isi_tuple_b, isi_tuple_n, isi_tuple_s, isi_tuple_t, isi_tuple_l, isi_tuple_f, isi_tuple_h, isi_list_i, isi_list_b, isi_list_n, isi_list_s, isi_list_t, isi_list_l, isi_list_f, isi_list_h, isi_dict_i, isi_dict_b, isi_dict_n, isi_dict_s, isi_dict_t, isi_dict_l, isi_dict_f, isi_dict_h, sSeq_w, seqK_nx, seqK_rt, seqK_bk, seqK_ct, seqK_ex, onK_ok, onK_ex, sNext_w, sSet_w, sOwn_w, sFrz_w, frzK_v, sApp_w, sExpr_w, sRet_w, sRetN_w, sIf_w, ifK_t, ifK_f, sBrk_w, sCnt_w, sPar_w, parK_v, sUnp_w, unpK_2, unpK_3, unpK_4, sHSet_w, hsK_0, hsK_1, hsK_2, hsK_3, sRaise_w, sFor_w, iSeq_w, seqOf_lst, seqOf_tup, seqOf_frz, iRng_w, loopK_nx, loopK_ct, loopK_bk, loopK_rt, for0, forN, loopF_nx, loopF_ct, loopF_bk, loopF_rt, loopF_ex, sWhile_w, nLc_w, lcB_ok, lc0, lcN, lcT_t, lcT_f, lcE_v, wipeE0, wipeE1, sTry_w, tryK_nx, tryK_rt, suiteK_nx, suiteK_rt, wipe0, wipe_v, wipe_n, wipe_o, call_w, callK_nx, callK_rt, callK_ex, vals0, vals1, List.length_cons, List.length_nil, List.replicate_succ, List.replicate_zero, List.cons_append, List.nil_append, List.getElem?_cons_zero, List.getElem?_cons_succ, List.set_cons_zero, List.set_cons_succ, Nat.reduceSub, Nat.reduceAdd, Nat.zero_add, Bool.not_true, Bool.not_false, Bool.and_self, Bool.and_true, Bool.and_false, lcM_v _ _ _ _ lm]
    rw [lcMap (g := fun m => m.2) 8 _ ms (fun m hm => by simp only [bind_w, bindK_ok, bindK_ex, ret_w, fail_w, eVar_w, varK_v, eC_w, eUn_w, eBin_w, evs0_w, evs1_w, eTup_w, eLst_w, eCall_w, eIf_w, ifE_t, ifE_f, eAnd_w, andE_t, andE_f, eOr_w, orE_t, orE_f, eNot_w, eChain_w, chainM_w, eJs_w, js0, js1, chainK_t, chainK_f, eNew_w, eHand_w, handK_ok, eXf_w, tVal_w, tTru_w, tNot_w, tYes_w, tAnd_w, tOr_w, andT_t, andT_f, orT_t, orT_f, boolOf_w, truth_bl, truth_int, truth_non, truth_lst, truth_tup, truth_frz, add_int, sub_int, neg_int, lt_int, le_int, gt_int, ge_int, isNon_w, notNon_w, is_w, isNot_w, int_w, abs_w, gcd_w, tup_w, tupt_w, list_w, listl_w, len_lst, len_tup, len_frz, un1_w, bin2_w, eq_int, ne_int, eq_pair, ne_pair, ix_lst, ix_frz, ix_tup, ix_hand, itK_v, item0, item1, item2, item3, isi_int_i, isi_int_b, isi_int_n, isi_int_s, isi_int_t, isi_int_l, isi_int_f, isi_int_h, isi_bool_i, isi_bool_b, isi_bool_n, isi_bool_s, isi_bool_t, isi_bool_l, isi_bool_f, isi_bool_h, isi_str_i, isi_str_b, isi_str_n, isi_str_s, isi_str_t, isi_str_l, isi_str_f, isi_str_h, isi_tuple_i, isi_tuple_b, isi_tuple_n, isi_tuple_s, isi_tuple_t, isi_tuple_l, isi_tuple_f, isi_tuple_h, isi_list_i, isi_list_b, isi_list_n, isi_list_s, isi_list_t, isi_list_l, isi_list_f, isi_list_h, isi_dict_i, isi_dict_b, isi_dict_n, isi_dict_s, isi_dict_t, isi_dict_l, isi_dict_f, isi_dict_h, sSeq_w, seqK_nx, seqK_rt, seqK_bk, seqK_ct, seqK_ex, onK_ok, onK_ex, sNext_w, sSet_w, sOwn_w, sFrz_w, frzK_v, sApp_w, sExpr_w, sRet_w, sRetN_w, sIf_w, ifK_t, ifK_f, sBrk_w, sCnt_w, sPar_w, parK_v, sUnp_w, unpK_2, unpK_3, unpK_4, sHSet_w, hsK_0, hsK_1, hsK_2, hsK_3, sRaise_w, sFor_w, iSeq_w, seqOf_lst, seqOf_tup, seqOf_frz, iRng_w, loopK_nx, loopK_ct, loopK_bk, loopK_rt, for0, forN, loopF_nx, loopF_ct, loopF_bk, loopF_rt, loopF_ex, sWhile_w, nLc_w, lcB_ok, lc0, lcN, lcT_t, lcT_f, lcE_v, wipeE0, wipeE1, sTry_w, tryK_nx, tryK_rt, suiteK_nx, suiteK_rt, wipe0, wipe_v, wipe_n, wipe_o, call_w, callK_nx, callK_rt, callK_ex, vals0, vals1, List.length_cons, List.length_nil, List.replicate_succ, List.replicate_zero, List.cons_append, List.nil_append, List.getElem?_cons_zero, List.getElem?_cons_succ, List.set_cons_zero, List.set_cons_succ, Nat.reduceSub, Nat.reduceAdd, Nat.zero_add, Bool.not_true, Bool.not_false, Bool.and_self, Bool.and_true, Bool.and_false])]
    rw [List.drop_zero]
    have tm := fun w => try_marked (w := w) okm (by omega)
    cases ef : fb 0 ms with
    | none =>
      obtain ⟨ds, e4⟩ := (tm w2).1 ef
      simp only [bind_w, bindK_ok, bindK_ex, ret_w, fail_w, eVar_w, varK_v, eC_w, eUn_w, eBin_w, evs0_w, evs1_w, eTup_w, eLst_w, eCall_w, eIf_w, ifE_t, ifE_f, eAnd_w, andE_t, andE_f, eOr_w, orE_t, orE_f, eNot_w, eChain_w, chainM_w, eJs_w, js0, js1, chainK_t, chainK_f, eNew_w, eHand_w, handK_ok, eXf_w, tVal_w, tTru_w, tNot_w, tYes_w, tAnd_w, tOr_w, andT_t, andT_f, orT_t, orT_f, boolOf_w, truth_bl, truth_int, truth_non, truth_lst, truth_tup, truth_frz, add_int, sub_int, neg_int, lt_int, le_int, gt_int, ge_int, isNon_w, notNon_w, is_w, isNot_w, int_w, abs_w, gcd_w, tup_w, tupt_w, list_w, listl_w, len_lst, len_tup, len_frz, un1_w, bin2_w, eq_int, ne_int, eq_pair, ne_pair, ix_lst, ix_frz, ix_tup, ix_hand, itK_v, item0, item1, item2, item3, isi_int_i, isi_int_b, isi_int_n, isi_int_s, isi_int_t, isi_int_l, isi_int_f, isi_int_h, isi_bool_i, isi_bool_b, isi_bool_n, isi_bool_s, isi_bool_t, isi_bool_l, isi_bool_f, isi_bool_h, isi_str_i, isi_str_b, isi_str_n, isi_str_s, isi_str_t, isi_str_l, isi_str_f, isi_str_h, isi_tuple_i, isi_tuple_b, isi_tuple_n, isi_tuple_s, isi_tuple_t, isi_tuple_l, isi_tuple_f, isi_tuple_h, isi_list_i, isi_list_b, isi_list_n, isi_list_s, isi_list_t, isi_list_l, isi_list_f, isi_list_h, isi_dict_i, isi_dict_b, isi_dict_n, isi_dict_s, isi_dict_t, isi_dict_l, isi_dict_f, isi_dict_h, sSeq_w, seqK_nx, seqK_rt, seqK_bk, seqK_ct, seqK_ex, onK_ok, onK_ex, sNext_w, sSet_w, sOwn_w, sFrz_w, frzK_v, sApp_w, sExpr_w, sRet_w, sRetN_w, sIf_w, ifK_t, ifK_f, sBrk_w, sCnt_w, sPar_w, parK_v, sUnp_w, unpK_2, unpK_3, unpK_4, sHSet_w, hsK_0, hsK_1, hsK_2, hsK_3, sRaise_w, sFor_w, iSeq_w, seqOf_lst, seqOf_tup, seqOf_frz, iRng_w, loopK_nx, loopK_ct, loopK_bk, loopK_rt, for0, forN, loopF_nx, loopF_ct, loopF_bk, loopF_rt, loopF_ex, sWhile_w, nLc_w, lcB_ok, lc0, lcN, lcT_t, lcT_f, lcE_v, wipeE0, wipeE1, sTry_w, tryK_nx, tryK_rt, suiteK_nx, suiteK_rt, wipe0, wipe_v, wipe_n, wipe_o, call_w, callK_nx, callK_rt, callK_ex, vals0, vals1, List.length_cons, List.length_nil, List.replicate_succ, List.replicate_zero, List.cons_append, List.nil_append, List.getElem?_cons_zero, List.getElem?_cons_succ, List.set_cons_zero, List.set_cons_succ, Nat.reduceSub, Nat.reduceAdd, Nat.zero_add, Bool.not_true, Bool.not_false, Bool.and_self, Bool.and_true, Bool.and_false, e4]
    | some p =>
      obtain ⟨i, s⟩ := p
      have e4 := fun w => (tm w).2 i s ef
      have sok : okS s := by
        have : ∀ (xs : List Mk) (n : Nat), (∀ m ∈ xs, MkOk m) → fb n xs = some (i, s) → okS s := by
          intro xs
          induction xs with
          | nil => intro n _ e; cases e
          | cons x xs ih =>
            intro n hx e
            by_cases z : x.1.length = 0
            · simp only [fb, if_pos z] at e
              exact ih (n + 1) (fun y hy => hx y (List.mem_cons_of_mem _ hy)) e
            · simp only [fb, if_neg z, Option.some.injEq, Prod.mk.injEq] at e
              rw [← e.2]
              exact (hx x (List.mem_cons_self ..)).ok
        exact this ms 0 okm ef
      have es : ∀ w : Wd, eqD (.lst [.int (i : Int), .str s]) (.lst [.int (i : Int), .str s]) w = .ok (.bl true) w := fun w => eq_same (by
        show (true && (D.flat 59 (.str s) && true)) = true
        have : D.flat 59 (.str s) = true := by unfold D.flat; exact sok
        rw [this]; rfl)
      simp only [bind_w, bindK_ok, bindK_ex, ret_w, fail_w, eVar_w, varK_v, eC_w, eUn_w, eBin_w, evs0_w, evs1_w, eTup_w, eLst_w, eCall_w, eIf_w, ifE_t, ifE_f, eAnd_w, andE_t, andE_f, eOr_w, orE_t, orE_f, eNot_w, eChain_w, chainM_w, eJs_w, js0, js1, chainK_t, chainK_f, eNew_w, eHand_w, handK_ok, eXf_w, tVal_w, tTru_w, tNot_w, tYes_w, tAnd_w, tOr_w, andT_t, andT_f, orT_t, orT_f, boolOf_w, truth_bl, truth_int, truth_non, truth_lst, truth_tup, truth_frz, add_int, sub_int, neg_int, lt_int, le_int, gt_int, ge_int, isNon_w, notNon_w, is_w, isNot_w, int_w, abs_w, gcd_w, tup_w, tupt_w, list_w, listl_w, len_lst, len_tup, len_frz, un1_w, bin2_w, eq_int, ne_int, eq_pair, ne_pair, ix_lst, ix_frz, ix_tup, ix_hand, itK_v, item0, item1, item2, item3, isi_int_i, isi_int_b, isi_int_n, isi_int_s, isi_int_t, isi_int_l, isi_int_f, isi_int_h, isi_bool_i, isi_bool_b, isi_bool_n, isi_bool_s, isi_bool_t, isi_bool_l, isi_bool_f, isi_bool_h, isi_str_i, isi_str_b, isi_str_n, isi_str_s, isi_str_t, isi_str_l, isi_str_f, isi_str_h, isi_tuple_i, isi_tuple_b, isi_tuple_n, isi_tuple_s, isi_tuple_t, isi_tuple_l, isi_tuple_f, isi_tuple_h, isi_list_i, isi_list_b, isi_list_n, isi_list_s, isi_list_t, isi_list_l, isi_list_f, isi_list_h, isi_dict_i, isi_dict_b, isi_dict_n, isi_dict_s, isi_dict_t, isi_dict_l, isi_dict_f, isi_dict_h, sSeq_w, seqK_nx, seqK_rt, seqK_bk, seqK_ct, seqK_ex, onK_ok, onK_ex, sNext_w, sSet_w, sOwn_w, sFrz_w, frzK_v, sApp_w, sExpr_w, sRet_w, sRetN_w, sIf_w, ifK_t, ifK_f, sBrk_w, sCnt_w, sPar_w, parK_v, sUnp_w, unpK_2, unpK_3, unpK_4, sHSet_w, hsK_0, hsK_1, hsK_2, hsK_3, sRaise_w, sFor_w, iSeq_w, seqOf_lst, seqOf_tup, seqOf_frz, iRng_w, loopK_nx, loopK_ct, loopK_bk, loopK_rt, for0, forN, loopF_nx, loopF_ct, loopF_bk, loopF_rt, loopF_ex, sWhile_w, nLc_w, lcB_ok, lc0, lcN, lcT_t, lcT_f, lcE_v, wipeE0, wipeE1, sTry_w, tryK_nx, tryK_rt, suiteK_nx, suiteK_rt, wipe0, wipe_v, wipe_n, wipe_o, call_w, callK_nx, callK_rt, callK_ex, vals0, vals1, List.length_cons, List.length_nil, List.replicate_succ, List.replicate_zero, List.cons_append, List.nil_append, List.getElem?_cons_zero, List.getElem?_cons_succ, List.set_cons_zero, List.set_cons_succ, Nat.reduceSub, Nat.reduceAdd, Nat.zero_add, Bool.not_true, Bool.not_false, Bool.and_self, Bool.and_true, Bool.and_false, e4, es, List.isEmpty_cons]
end K07

namespace K07
open PySem FL
variable {w : Wd}
/-! ### one load left out -/
theorem sW_mid {xs ys : List Ld} {l : Ld} : sW (xs ++ ys) + l.w = sW (xs ++ l :: ys) := by
  unfold sW
  rw [List.map_append, List.map_append, List.map_cons, sumQ_mid]
theorem sB_mid {xs ys : List Ld} {l : Ld} : sB (xs ++ ys) + l.w * l.b = sB (xs ++ l :: ys) := by
  unfold sB
  rw [List.map_append, List.map_append, List.map_cons, sumQ_mid]
theorem b1 (x y : Int) : (!(x == x && y == y)) = false := by simp
theorem leftL {ls : List Ld} (h : ∀ l ∈ ls, LdOk l) (hl : ls.length ≤ 8) {s0 s1 s2 s3 s4 s6 s9 t0 t1 t3 t5 t6 t9 v0 : Slot} : ∀ (m n : Nat) (s7 s8 s17 s18 : Slot), n + m = ls.length → ∃ u7 u8 u17 u18, forL (gN 17) B_law_1 (rng n m) [s0, s1, s2, s3, s4, .val (.lst (ls.map ld)), s6, s7, s8, s9, t0, t1, .val (rq (sW ls)), t3, .val (rq (sB ls)), t5, t6, s17, s18, t9, v0] w = .nx [s0, s1, s2, s3, s4, .val (.lst (ls.map ld)), s6, u7, u8, s9, t0, t1, .val (rq (sW ls)), t3, .val (rq (sB ls)), t5, t6, u17, u18, t9, v0] w
  | 0, n, s7, s8, s17, s18, hn => ⟨s7, s8, s17, s18, rfl⟩
  | m + 1, n, s7, s8, s17, s18, hn => by
    have hlt : n < ls.length := by omega
    have hls : ls = ls.take n ++ ls[n] :: ls.drop (n + 1) := by rw [← List.drop_eq_getElem_cons hlt, List.take_append_drop]
    have hrest : (ls.map ld).take n ++ (ls.map ld).drop (n + 1) = (ls.take n ++ ls.drop (n + 1)).map ld := by rw [List.map_append, List.map_take, List.map_drop]
    have ho : ∀ l ∈ ls.take n ++ ls.drop (n + 1), LdOk l := fun l hm => by
      rcases List.mem_append.mp hm with hm | hm
      · exact h l (List.mem_of_mem_take hm)
      · exact h l (List.mem_of_mem_drop hm)
    have hlen : (ls.take n ++ ls.drop (n + 1)).length ≤ 8 := by rw [List.length_append, List.length_take, List.length_drop]; omega
    have hsz : 2 + ((ls.take n ++ ls.drop (n + 1)).length * (40 + 40 + 1) + (ls.take n ++ ls.drop (n + 1)).length * (40 + 40 + 1)) < 9000 := by omega
    have hm := h ls[n] (List.getElem_mem hlt)
    have it : itemAt (ls.map ld) (n : Int) = some (ld ls[n]) := itemMap (List.getElem?_eq_getElem hlt)
    have oz := fun l hl => (ho l hl).sz
    have tw := fun w => total_w (w := w) (.inl rfl) (.inl rfl) oz hsz
    have mw := fun w => moment_w (w := w) (.inl rfl) (.inl rfl) oz hsz
    have zW := szW oz hsz
    have zB := szB oz hsz
    have pW : ∀ w : Wd, F__law_plus [rq (sW (ls.take n ++ ls.drop (n + 1))), rq ls[n].w] w = .ok (rq (sW ls)) w := fun w => by
      rw [lplus_q zW hm.sz.1 (by omega), sW_mid, ← hls]
    have pB : ∀ w : Wd, F__law_plus [rq (sB (ls.take n ++ ls.drop (n + 1))), rq (ls[n].w * ls[n].b)] w = .ok (rq (sB ls)) w := fun w => by
      rw [lplus_q zB (hm.sz.1.mul hm.sz.2.2) (by omega), sB_mid, ← hls]
    have tB : ∀ w : Wd, F__law_times [rq ls[n].w, rq ls[n].b] w = .ok (rq (ls[n].w * ls[n].b)) w := fun w => ltimes_q hm.sz.1 hm.sz.2.2 (by decide)
    have al : ((ls.map ld).take n).length + ((ls.map ld).drop (n + 1)).length ≤ line := by
      rw [List.length_take, List.length_drop, List.length_map]; unfold line; omega
    have sk := fun w => slK_v (w := w) (ls.map ld) n
    have sl := fun w => slL_v (w := w) (ls.map ld) (n + 1)
    rw [show ((n + 1 : Nat) : Int) = (n : Int) + 1 from rfl] at sl
    obtain ⟨u7, u8, u17, u18, e⟩ := leftL h hl (s0 := s0) (s1 := s1) (s2 := s2) (s3 := s3) (s4 := s4) (s6 := s6) (s9 := s9) (t0 := t0) (t1 := t1) (t3 := t3) (t5 := t5) (t6 := t6) (t9 := t9) (v0 := v0) m (n + 1) (.val (rq ls[n].w)) (.val (.tup [rq ls[n].a, rq ls[n].b])) (.val (.int n)) (.val (.lst ((ls.take n ++ ls.drop (n + 1)).map ld))) (by omega)
    refine ⟨u7, u8, u17, u18, ?_⟩
    show forL (gN 17) B_law_1 (.int (n : Int) :: rng (n + 1) m) _ w = _
    simp only [bind_w, bindK_ok, bindK_ex, ret_w, fail_w, eVar_w, varK_v, eC_w, eUn_w, eBin_w, evs0_w, evs1_w, eTup_w, eLst_w, eCall_w, eIf_w, ifE_t, ifE_f, eAnd_w, andE_t, andE_f, eOr_w, orE_t, orE_f, eNot_w, eChain_w, chainM_w, eJs_w, js0, js1, chainK_t, chainK_f, eNew_w, eHand_w, handK_ok, eXf_w, tVal_w, tTru_w, tNot_w, tYes_w, tAnd_w, tOr_w, andT_t, andT_f, orT_t, orT_f, boolOf_w, truth_bl, truth_int, truth_non, truth_lst, truth_tup, truth_frz, add_int, sub_int, neg_int, lt_int, le_int, gt_int, ge_int, isNon_w, notNon_w, is_w, isNot_w, int_w, abs_w, gcd_w, tup_w, tupt_w, list_w, listl_w, len_lst, len_tup, len_frz, un1_w, bin2_w, eq_int, ne_int, eq_pair, ne_pair, ix_lst, ix_frz, ix_tup, ix_hand, itK_v, item0, item1, item2, item3, isi_int_i, isi_int_b, isi_int_n, isi_int_s, isi_int_t, isi_int_l, isi_int_f, isi_int_h, isi_bool_i, isi_bool_b, isi_bool_n, isi_bool_s, isi_bool_t, isi_bool_l, isi_bool_f, isi_bool_h, isi_str_i, isi_str_b, isi_str_n, isi_str_s, isi_str_t, isi_str_l, isi_str_f, isi_str_h, isi_tuple_i, isi_tuple_b, isi_tuple_n, isi_tuple_s, isi_tuple_t, isi_tuple_l, isi_tuple_f, isi_tuple_h, isi_list_i, isi_list_b, isi_list_n, isi_list_s, isi_list_t, isi_list_l, isi_list_f, isi_list_h, isi_dict_i, isi_dict_b, isi_dict_n, isi_dict_s, isi_dict_t, isi_dict_l, isi_dict_f, isi_dict_h, sSeq_w, seqK_nx, seqK_rt, seqK_bk, seqK_ct, seqK_ex, onK_ok, onK_ex, sNext_w, sSet_w, sOwn_w, sFrz_w, frzK_v, sApp_w, sExpr_w, sRet_w, sRetN_w, sIf_w, ifK_t, ifK_f, sBrk_w, sCnt_w, sPar_w, parK_v, sUnp_w, unpK_2, unpK_3, unpK_4, sHSet_w, hsK_0, hsK_1, hsK_2, hsK_3, sRaise_w, sFor_w, iSeq_w, seqOf_lst, seqOf_tup, seqOf_frz, iRng_w, loopK_nx, loopK_ct, loopK_bk, loopK_rt, for0, forN, loopF_nx, loopF_ct, loopF_bk, loopF_rt, loopF_ex, sWhile_w, nLc_w, lcB_ok, lc0, lcN, lcT_t, lcT_f, lcE_v, wipeE0, wipeE1, sTry_w, tryK_nx, tryK_rt, suiteK_nx, suiteK_rt, wipe0, wipe_v, wipe_n, wipe_o, call_w, callK_nx, callK_rt, callK_ex, vals0, vals1, List.length_cons, List.length_nil, List.replicate_succ, List.replicate_zero, List.cons_append, List.nil_append, List.getElem?_cons_zero, List.getElem?_cons_succ, List.set_cons_zero, List.set_cons_succ, Nat.reduceSub, Nat.reduceAdd, Nat.zero_add, Bool.not_true, Bool.not_false, Bool.and_self, Bool.and_true, Bool.and_false, B_law_1_w, sl_hi, sl_lo, sk, sl, add_lst al, hrest, it, tw, mw, pW, tB, pB, b1]
    exact e
/-! ### the nine -/
def nineL : List Ld := [⟨1, 1, 0⟩, ⟨1, 2, 0⟩, ⟨1, 3, 0⟩, ⟨1, 4, 0⟩, ⟨1, 5, 0⟩, ⟨1, 6, 0⟩, ⟨1, 7, 0⟩, ⟨1, 8, 0⟩]
theorem nine_ok : ∀ l ∈ nineL, LdOk l := fun l hl => by
  unfold nineL at hl
  simp only [List.mem_cons, List.not_mem_nil, or_false] at hl
  rcases hl with rfl | rfl | rfl | rfl | rfl | rfl | rfl | rfl <;> (unfold LdOk Sm; decide)
abbrev nn (i : Int) : D := .tup [.tup [.int 1, .int 1], .tup [.tup [.int i, .int 1], .tup [.int 0, .int 1]]]
theorem nine_is : [nn 1, nn 2, nn 3, nn 4, nn 5, nn 6, nn 7, nn 8] = nineL.map ld := by rfl
/-! ### the law -/
theorem revm (m : Nat) (xs : List D) (hm : xs.length = m) : ∃ g : Nat → D, (∀ k, k < m → itemAt xs ((m : Int) - 1 - (k : Int)) = some (g k)) ∧ (List.range m).map g = xs.reverse := by
  subst hm
  refine ⟨fun k => (xs.reverse[k]?).getD .non, fun k hk => ?_, ?_⟩
  · have e : ((xs.length : Int) - 1 - (k : Int)) = ((xs.length - 1 - k : Nat) : Int) := by omega
    rw [e]
    refine item_nat (by omega) ?_
    rw [Int.toNat_natCast]
    show _ = some ((xs.reverse[k]?).getD .non)
    rw [List.getElem?_reverse hk, List.getElem?_eq_getElem (by omega)]
    rfl
  · refine List.ext_getElem (by simp) fun i h1 h2 => ?_
    rw [List.getElem_map, List.getElem_range, List.getElem?_eq_getElem h2]
    rfl
theorem sW_rev (ls : List Ld) : sW ls.reverse = sW ls := by unfold sW; rw [List.map_reverse, sumQ_rev]
theorem sA_rev (ls : List Ld) : sA ls.reverse = sA ls := by unfold sA; rw [List.map_reverse, sumQ_rev]
theorem sB_rev (ls : List Ld) : sB ls.reverse = sB ls := by unfold sB; rw [List.map_reverse, sumQ_rev]
theorem oneS {l : Ld} (hl : LdSz 1000 l) (f : l = ⟨l.w, l.a, l.b⟩) : (∀ w, F_total_of [.tup [ld l]] w = .ok (rq l.w) w) ∧ (∀ w, F_moment_of [.tup [ld l]] w = .ok (.tup [rq (l.w * l.a), rq (l.w * l.b)]) w) := by
  have h : ∀ x ∈ [l], LdSz 1000 x := fun x hx => by rw [List.mem_singleton.mp hx]; exact hl
  have t := fun w => total_w (w := w) (f := ld) (c := D.tup) (.inl rfl) (.inr rfl) h (by rw [List.length_singleton]; decide)
  have m := fun w => moment_w (w := w) (f := ld) (c := D.tup) (.inl rfl) (.inr rfl) h (by rw [List.length_singleton]; decide)
  rw [show sW [l] = l.w from Rat.add_zero _] at t
  rw [show sA [l] = l.w * l.a from Rat.add_zero _, show sB [l] = l.w * l.b from Rat.add_zero _] at m
  exact ⟨t, m⟩
theorem same_pp (a b : Rat) : neD (.tup [rq a, rq b]) (.tup [rq a, rq b]) w = .ok (.bl false) w := ne_same rfl
theorem same_one (l : Ld) : neD (.tup [ld l]) (.tup [ld l]) w = .ok (.bl false) w := ne_same rfl
theorem same_none (m : Nat) : neD (.lst [.str "none", .int (m : Int)]) (.lst [.str "none", .int (m : Int)]) w = .ok (.bl false) w := ne_same (by
  have e : D.flat 59 (.str "none") = true := by decide +kernel
  show (D.flat 59 (.str "none") && (true && true)) = true
  rw [e]; rfl)
theorem plain : ∀ ns : List Int, ns.length ≤ 63 → ∃ w', F_law [.frz (ns.map D.int)] none = .ok (.bl true) w' := by
  intro ns hl
  obtain ⟨w1, e1, h1⟩ := hand_w ns hl
  obtain ⟨v, w2, e2, v0, v9, h2⟩ := take_w (many := 9) (k := 4) h1 (by decide) (by unfold Sz; decide) (by decide)
  obtain ⟨g, w3, e3, _, _, h3⟩ := take_w (many := 3) (k := 2) h2 (by decide) (by unfold Sz; decide) (by decide)
  obtain ⟨z, w4, e4, _, _, h4⟩ := take_w (many := 6) (k := 3) h3 (by decide) (by unfold Sz; decide) (by decide)
  obtain ⟨ls, w5, u6, u7, u8, e5, h5, ok, n5⟩ := turnsL (g := g == 0) (z := z == 0) (s0 := .val (.frz (ns.map D.int))) (s2 := .val (.int v)) (s9 := .none) (t0 := .none) (t1 := .none) (t2 := .none) (t3 := .none) (t4 := .none) (t5 := .none) (t6 := .none) (t7 := .none) (t8 := .none) (t9 := .none) (v0 := .none) v.toNat 0 [] .none .none .none w4 h4 (fun l hl => by cases hl) (by simp only [List.length_nil]; omega)
  rw [List.length_nil, Nat.zero_add] at n5
  have hv : v = (ls.length : Int) := by omega
  subst hv
  have l8 : ls.length ≤ 8 := by omega
  have rg := range0 (w := w4) ls.length (by omega)
  rw [Int.toNat_natCast] at e5
  rw [List.map_nil] at e5
  have ll : (ls.map ld).length ≤ line := by rw [List.length_map]; unfold line; omega
  have oz := fun l hl => (ok l hl).sz
  have hsz : 2 + (ls.length * (40 + 40 + 1) + ls.length * (40 + 40 + 1)) < 9000 := by omega
  have rp := repr_w ok l8
  have rs : ∀ w : Wd, neD (.str (D.lst (ls.map gv)).py.shown) (.str (D.lst (ls.map gv)).py.shown) w = .ok (.bl false) w := fun w => ne_same (by unfold D.flat; exact okS_gs ls)
  have t1 := fun w => try_w (w := w) (f := gv) (c := D.lst) (.inl rfl) (fun l hl => good_gv (ok l hl)) l8
  have t2 := fun w => try_w (w := w) (f := ld) (c := D.tup) (.inr rfl) (fun l hl => good_ld (ok l hl)) l8
  have tt : ∀ w : Wd, neD (.tup (ls.map ld)) (.tup (ls.map ld)) w = .ok (.bl false) w := fun w => ne_same (flat_lds ls)
  have tu := fun w => tu_lds (w := w) (ls := ls) (by omega)
  have lc := fun w => lcentre_w (w := w) oz hsz
  have tg := fun w => total_w (w := w) (f := gv) (c := D.lst) (.inr rfl) (.inl rfl) oz hsz
  have mg := fun w => moment_w (w := w) (f := gv) (c := D.lst) (.inr rfl) (.inl rfl) oz hsz
  -- turned
  obtain ⟨q, q1, q2⟩ := revm ls.length (ls.map ld) (List.length_map ..)
  have ozr : ∀ l ∈ ls.reverse, LdSz 40 l := fun l hl => oz l (List.mem_reverse.mp hl)
  have hsr : 2 + (ls.reverse.length * (40 + 40 + 1) + ls.reverse.length * (40 + 40 + 1)) < 9000 := by rw [List.length_reverse]; exact hsz
  have tr := fun w => total_w (w := w) (f := ld) (c := D.lst) (.inl rfl) (.inl rfl) ozr hsr
  have mr := fun w => moment_w (w := w) (f := ld) (c := D.lst) (.inl rfl) (.inl rfl) ozr hsr
  simp only [sW_rev] at tr
  simp only [sA_rev, sB_rev] at mr
  have lr : (rng 0 ls.length).length ≤ line := by rw [rng_map, List.length_map, List.length_range]; unfold line; omega
  have turned : ∀ (ρ : FL.Env) (w : Wd), ρ[5]? = some (.val (.lst (ls.map ld))) → ρ[2]? = some (.val (.int (ls.length : Int))) → 17 < ρ.length → lcL (gN 17) tYes (eBin ixD (eVar 5) (eBin subD (eBin subD (eVar 2) (eC (.int 1))) (eVar 17))) ρ (rng 0 ls.length) w = .ok (ls.reverse.map ld) w := fun ρ w r5 r2 r17 => by
    rw [rng_map, lcMap (g := q) 17 _ (List.range ls.length) (fun k hk => ?_), q2, List.map_reverse]
    have a5 : (ρ.set 17 (.val (.int (k : Int))))[5]? = some (.val (.lst (ls.map ld))) := by rw [List.getElem?_set_ne (by decide)]; exact r5
    have a2 : (ρ.set 17 (.val (.int (k : Int))))[2]? = some (.val (.int (ls.length : Int))) := by rw [List.getElem?_set_ne (by decide)]; exact r2
    have a17 : (ρ.set 17 (.val (.int (k : Int))))[17]? = some (.val (.int (k : Int))) := by rw [List.getElem?_set_self r17]
    simp only [bind_w, bindK_ok, bindK_ex, ret_w, fail_w, eVar_w, varK_v, eC_w, eUn_w, eBin_w, evs0_w, evs1_w, eTup_w, eLst_w, eCall_w, eIf_w, ifE_t, ifE_f, eAnd_w, andE_t, andE_f, eOr_w, orE_t, orE_f, eNot_w, eChain_w, chainM_w, eJs_w, js0, js1, chainK_t, chainK_f, eNew_w, eHand_w, handK_ok, eXf_w, tVal_w, tTru_w, tNot_w, tYes_w, tAnd_w, tOr_w, andT_t, andT_f, orT_t, orT_f, boolOf_w, truth_bl, truth_int, truth_non, truth_lst, truth_tup, truth_frz, add_int, sub_int, neg_int, lt_int, le_int, gt_int, ge_int, isNon_w, notNon_w, is_w, isNot_w, int_w, abs_w, gcd_w, tup_w, tupt_w, list_w, listl_w, len_lst, len_tup, len_frz, un1_w, bin2_w, eq_int, ne_int, eq_pair, ne_pair, ix_lst, ix_frz, ix_tup, ix_hand, itK_v, item0, item1, item2, item3, isi_int_i, isi_int_b, isi_int_n, isi_int_s, isi_int_t, isi_int_l, isi_int_f, isi_int_h, isi_bool_i, isi_bool_b, isi_bool_n, isi_bool_s, isi_bool_t, isi_bool_l, isi_bool_f, isi_bool_h, isi_str_i, isi_str_b, isi_str_n, isi_str_s, isi_str_t, isi_str_l, isi_str_f, isi_str_h, isi_tuple_i, isi_tuple_b, isi_tuple_n, isi_tuple_s, isi_tuple_t, isi_tuple_l, isi_tuple_f, isi_tuple_h, isi_list_i, isi_list_b, isi_list_n, isi_list_s, isi_list_t, isi_list_l, isi_list_f, isi_list_h, isi_dict_i, isi_dict_b, isi_dict_n, isi_dict_s, isi_dict_t, isi_dict_l, isi_dict_f, isi_dict_h, sSeq_w, seqK_nx, seqK_rt, seqK_bk, seqK_ct, seqK_ex, onK_ok, onK_ex, sNext_w, sSet_w, sOwn_w, sFrz_w, frzK_v, sApp_w, sExpr_w, sRet_w, sRetN_w, sIf_w, ifK_t, ifK_f, sBrk_w, sCnt_w, sPar_w, parK_v, sUnp_w, unpK_2, unpK_3, unpK_4, sHSet_w, hsK_0, hsK_1, hsK_2, hsK_3, sRaise_w, sFor_w, iSeq_w, seqOf_lst, seqOf_tup, seqOf_frz, iRng_w, loopK_nx, loopK_ct, loopK_bk, loopK_rt, for0, forN, loopF_nx, loopF_ct, loopF_bk, loopF_rt, loopF_ex, sWhile_w, nLc_w, lcB_ok, lc0, lcN, lcT_t, lcT_f, lcE_v, wipeE0, wipeE1, sTry_w, tryK_nx, tryK_rt, suiteK_nx, suiteK_rt, wipe0, wipe_v, wipe_n, wipe_o, call_w, callK_nx, callK_rt, callK_ex, vals0, vals1, List.length_cons, List.length_nil, List.replicate_succ, List.replicate_zero, List.cons_append, List.nil_append, List.getElem?_cons_zero, List.getElem?_cons_succ, List.set_cons_zero, List.set_cons_succ, Nat.reduceSub, Nat.reduceAdd, Nat.zero_add, Bool.not_true, Bool.not_false, Bool.and_self, Bool.and_true, Bool.and_false, a5, a2, a17, q1 k (List.mem_range.mp hk)]
  -- the ends
  obtain ⟨w6, e6, h6⟩ := refused_w h5 ok l8
  have s1 : ∀ w : Wd, F__law_try [.lst [nn 0, nn 1, nn 2, nn 3, nn 4, nn 5, nn 6, nn 7, nn 8]] w = .ok (.lst [.int 0, .str "many"]) w := fun w => try_many (.inl rfl) (by decide)
  have s2 : ∀ w : Wd, slL (.lst [nn 0, nn 1, nn 2, nn 3, nn 4, nn 5, nn 6, nn 7, nn 8]) (.int 1) w = .ok (.lst [nn 1, nn 2, nn 3, nn 4, nn 5, nn 6, nn 7, nn 8]) w := fun w => slL_v _ 1
  have s3 : ∀ w : Wd, F__law_try [.lst [nn 1, nn 2, nn 3, nn 4, nn 5, nn 6, nn 7, nn 8]] w = .ok (.tup [nn 1, nn 2, nn 3, nn 4, nn 5, nn 6, nn 7, nn 8]) w := fun w => by
    rw [nine_is]
    exact try_w (f := ld) (c := D.lst) (.inl rfl) (fun l hl => good_ld (nine_ok l hl)) (by decide)
  have s4 : ∀ w : Wd, F__law_try [.str ""] w = .ok (.lst [.int 0, .str "many"]) w := fun w => try_odd fun w => isi_lt_s _
  have s5 : ∀ w : Wd, F__law_try [.non] w = .ok (.lst [.int 0, .str "many"]) w := fun w => try_odd fun w => isi_lt_n
  have s6 : ∀ w : Wd, F__law_try [.lst []] w = .ok (.tup []) w := fun w => try_w (f := ld) (c := D.lst) (ls := []) (.inl rfl) (fun l hl => by cases hl) (by decide)
  have s7 : ∀ w : Wd, F_total_of [.tup []] w = .ok (rq 0) w := fun w => total_w (f := ld) (c := D.tup) (ls := []) (k := 40) (.inl rfl) (.inr rfl) (fun l hl => by cases hl) (by decide)
  have s8 : ∀ w : Wd, F_moment_of [.lst []] w = .ok (.tup [rq 0, rq 0]) w := fun w => moment_w (f := ld) (c := D.lst) (ls := []) (k := 40) (.inl rfl) (.inl rfl) (fun l hl => by cases hl) (by decide)
  have y1 : ∀ w : Wd, neD (.lst [.int 0, .str "many"]) (.lst [.int 0, .str "many"]) w = .ok (.bl false) w := fun w => ne_same (by decide +kernel)
  have y2 : ∀ w : Wd, eqD (.lst [.int 0, .str "many"]) (.lst [.int 0, .str "many"]) w = .ok (.bl true) w := fun w => eq_same (by decide +kernel)
  have y3 : ∀ w : Wd, neD (.tup [nn 1, nn 2, nn 3, nn 4, nn 5, nn 6, nn 7, nn 8]) (.tup [nn 1, nn 2, nn 3, nn 4, nn 5, nn 6, nn 7, nn 8]) w = .ok (.bl false) w := fun w => ne_same (by decide +kernel)
  have y4 : ∀ w : Wd, eqD (.tup []) (.tup []) w = .ok (.bl true) w := fun w => eq_same (by decide +kernel)
  have y5 : ∀ w : Wd, eqD (rq 0) (.tup [.int 0, .int 1]) w = .ok (.bl true) w := fun w => eq_same (d := .tup [.int 0, .int 1]) (by decide +kernel)
  have y6 : ∀ w : Wd, eqD (.tup [rq 0, rq 0]) (.tup [.tup [.int 0, .int 1], .tup [.int 0, .int 1]]) w = .ok (.bl true) w := fun w => eq_same (d := .tup [.tup [.int 0, .int 1], .tup [.int 0, .int 1]]) (by decide +kernel)
  have r9 := fun w : Wd => range_w (w := w) (i := 0) (j := 9) (by decide)
  have l9 : [D.int 0, .int 1, .int 2, .int 3, .int 4, .int 5, .int 6, .int 7, .int 8].length ≤ line := by unfold line; decide
  refine ⟨w6, ?_⟩
  unfold F_law
  simp only [bind_w, bindK_ok, bindK_ex, ret_w, fail_w, eVar_w, varK_v, eC_w, eUn_w, eBin_w, evs0_w, evs1_w, eTup_w, eLst_w, eCall_w, eIf_w, ifE_t, ifE_f, eAnd_w, andE_t, andE_f, eOr_w, orE_t, orE_f, eNot_w, eChain_w, chainM_w, eJs_w, js0, js1, chainK_t, chainK_f, eNew_w, eHand_w, handK_ok, eXf_w, tVal_w, tTru_w, tNot_w, tYes_w, tAnd_w, tOr_w, andT_t, andT_f, orT_t, orT_f, boolOf_w, truth_bl, truth_int, truth_non, truth_lst, truth_tup, truth_frz, add_int, sub_int, neg_int, lt_int, le_int, gt_int, ge_int, isNon_w, notNon_w, is_w, isNot_w, int_w, abs_w, gcd_w, tup_w, tupt_w, list_w, listl_w, len_lst, len_tup, len_frz, un1_w, bin2_w, eq_int, ne_int, eq_pair, ne_pair, ix_lst, ix_frz, ix_tup, ix_hand, itK_v, item0, item1, item2, item3, isi_int_i, isi_int_b, isi_int_n, isi_int_s, isi_int_t, isi_int_l, isi_int_f, isi_int_h, isi_bool_i, isi_bool_b, isi_bool_n, isi_bool_s, isi_bool_t, isi_bool_l, isi_bool_f, isi_bool_h, isi_str_i, isi_str_b, isi_str_n, isi_str_s, isi_str_t, isi_str_l, isi_str_f, isi_str_h, isi_tuple_i, isi_tuple_b, isi_tuple_n, isi_tuple_s, isi_tuple_t, isi_tuple_l, isi_tuple_f, isi_tuple_h, isi_list_i, isi_list_b, isi_list_n, isi_list_s, isi_list_t, isi_list_l, isi_list_f, isi_list_h, isi_dict_i, isi_dict_b, isi_dict_n, isi_dict_s, isi_dict_t, isi_dict_l, isi_dict_f, isi_dict_h, sSeq_w, seqK_nx, seqK_rt, seqK_bk, seqK_ct, seqK_ex, onK_ok, onK_ex, sNext_w, sSet_w, sOwn_w, sFrz_w, frzK_v, sApp_w, sExpr_w, sRet_w, sRetN_w, sIf_w, ifK_t, ifK_f, sBrk_w, sCnt_w, sPar_w, parK_v, sUnp_w, unpK_2, unpK_3, unpK_4, sHSet_w, hsK_0, hsK_1, hsK_2, hsK_3, sRaise_w, sFor_w, iSeq_w, seqOf_lst, seqOf_tup, seqOf_frz, iRng_w, loopK_nx, loopK_ct, loopK_bk, loopK_rt, for0, forN, loopF_nx, loopF_ct, loopF_bk, loopF_rt, loopF_ex, sWhile_w, nLc_w, lcB_ok, lc0, lcN, lcT_t, lcT_f, lcE_v, wipeE0, wipeE1, sTry_w, tryK_nx, tryK_rt, suiteK_nx, suiteK_rt, wipe0, wipe_v, wipe_n, wipe_o, call_w, callK_nx, callK_rt, callK_ex, vals0, vals1, List.length_cons, List.length_nil, List.replicate_succ, List.replicate_zero, List.cons_append, List.nil_append, List.getElem?_cons_zero, List.getElem?_cons_succ, List.set_cons_zero, List.set_cons_succ, Nat.reduceSub, Nat.reduceAdd, Nat.zero_add, Bool.not_true, Bool.not_false, Bool.and_self, Bool.and_true, Bool.and_false, e1, e2, e3, e4, rg]
  rw [e5]
  simp only [bind_w, bindK_ok, bindK_ex, ret_w, fail_w, eVar_w, varK_v, eC_w, eUn_w, eBin_w, evs0_w, evs1_w, eTup_w, eLst_w, eCall_w, eIf_w, ifE_t, ifE_f, eAnd_w, andE_t, andE_f, eOr_w, orE_t, orE_f, eNot_w, eChain_w, chainM_w, eJs_w, js0, js1, chainK_t, chainK_f, eNew_w, eHand_w, handK_ok, eXf_w, tVal_w, tTru_w, tNot_w, tYes_w, tAnd_w, tOr_w, andT_t, andT_f, orT_t, orT_f, boolOf_w, truth_bl, truth_int, truth_non, truth_lst, truth_tup, truth_frz, add_int, sub_int, neg_int, lt_int, le_int, gt_int, ge_int, isNon_w, notNon_w, is_w, isNot_w, int_w, abs_w, gcd_w, tup_w, tupt_w, list_w, listl_w, len_lst, len_tup, len_frz, un1_w, bin2_w, eq_int, ne_int, eq_pair, ne_pair, ix_lst, ix_frz, ix_tup, ix_hand, itK_v, item0, item1, item2, item3, isi_int_i, isi_int_b, isi_int_n, isi_int_s, isi_int_t, isi_int_l, isi_int_f, isi_int_h, isi_bool_i, isi_bool_b, isi_bool_n, isi_bool_s, isi_bool_t, isi_bool_l, isi_bool_f, isi_bool_h, isi_str_i, isi_str_b, isi_str_n, isi_str_s, isi_str_t, isi_str_l, isi_str_f, isi_str_h, isi_tuple_i, isi_tuple_b, isi_tuple_n, isi_tuple_s, isi_tuple_t, isi_tuple_l, isi_tuple_f, isi_tuple_h, isi_list_i, isi_list_b, isi_list_n, isi_list_s, isi_list_t, isi_list_l, isi_list_f, isi_list_h, isi_dict_i, isi_dict_b, isi_dict_n, isi_dict_s, isi_dict_t, isi_dict_l, isi_dict_f, isi_dict_h, sSeq_w, seqK_nx, seqK_rt, seqK_bk, seqK_ct, seqK_ex, onK_ok, onK_ex, sNext_w, sSet_w, sOwn_w, sFrz_w, frzK_v, sApp_w, sExpr_w, sRet_w, sRetN_w, sIf_w, ifK_t, ifK_f, sBrk_w, sCnt_w, sPar_w, parK_v, sUnp_w, unpK_2, unpK_3, unpK_4, sHSet_w, hsK_0, hsK_1, hsK_2, hsK_3, sRaise_w, sFor_w, iSeq_w, seqOf_lst, seqOf_tup, seqOf_frz, iRng_w, loopK_nx, loopK_ct, loopK_bk, loopK_rt, for0, forN, loopF_nx, loopF_ct, loopF_bk, loopF_rt, loopF_ex, sWhile_w, nLc_w, lcB_ok, lc0, lcN, lcT_t, lcT_f, lcE_v, wipeE0, wipeE1, sTry_w, tryK_nx, tryK_rt, suiteK_nx, suiteK_rt, wipe0, wipe_v, wipe_n, wipe_o, call_w, callK_nx, callK_rt, callK_ex, vals0, vals1, List.length_cons, List.length_nil, List.replicate_succ, List.replicate_zero, List.cons_append, List.nil_append, List.getElem?_cons_zero, List.getElem?_cons_succ, List.set_cons_zero, List.set_cons_succ, Nat.reduceSub, Nat.reduceAdd, Nat.zero_add, Bool.not_true, Bool.not_false, Bool.and_self, Bool.and_true, Bool.and_false, lcM_v _ _ _ _ ll]
  rw [lcMap (g := gv) 20 _ ls (fun l hm => by simp only [bind_w, bindK_ok, bindK_ex, ret_w, fail_w, eVar_w, varK_v, eC_w, eUn_w, eBin_w, evs0_w, evs1_w, eTup_w, eLst_w, eCall_w, eIf_w, ifE_t, ifE_f, eAnd_w, andE_t, andE_f, eOr_w, orE_t, orE_f, eNot_w, eChain_w, chainM_w, eJs_w, js0, js1, chainK_t, chainK_f, eNew_w, eHand_w, handK_ok, eXf_w, tVal_w, tTru_w, tNot_w, tYes_w, tAnd_w, tOr_w, andT_t, andT_f, orT_t, orT_f, boolOf_w, truth_bl, truth_int, truth_non, truth_lst, truth_tup, truth_frz, add_int, sub_int, neg_int, lt_int, le_int, gt_int, ge_int, isNon_w, notNon_w, is_w, isNot_w, int_w, abs_w, gcd_w, tup_w, tupt_w, list_w, listl_w, len_lst, len_tup, len_frz, un1_w, bin2_w, eq_int, ne_int, eq_pair, ne_pair, ix_lst, ix_frz, ix_tup, ix_hand, itK_v, item0, item1, item2, item3, isi_int_i, isi_int_b, isi_int_n, isi_int_s, isi_int_t, isi_int_l, isi_int_f, isi_int_h, isi_bool_i, isi_bool_b, isi_bool_n, isi_bool_s, isi_bool_t, isi_bool_l, isi_bool_f, isi_bool_h, isi_str_i, isi_str_b, isi_str_n, isi_str_s, isi_str_t, isi_str_l, isi_str_f, isi_str_h, isi_tuple_i, isi_tuple_b, isi_tuple_n, isi_tuple_s, isi_tuple_t, isi_tuple_l, isi_tuple_f, isi_tuple_h, isi_list_i, isi_list_b, isi_list_n, isi_list_s, isi_list_t, isi_list_l, isi_list_f, isi_list_h, isi_dict_i, isi_dict_b, isi_dict_n, isi_dict_s, isi_dict_t, isi_dict_l, isi_dict_f, isi_dict_h, sSeq_w, seqK_nx, seqK_rt, seqK_bk, seqK_ct, seqK_ex, onK_ok, onK_ex, sNext_w, sSet_w, sOwn_w, sFrz_w, frzK_v, sApp_w, sExpr_w, sRet_w, sRetN_w, sIf_w, ifK_t, ifK_f, sBrk_w, sCnt_w, sPar_w, parK_v, sUnp_w, unpK_2, unpK_3, unpK_4, sHSet_w, hsK_0, hsK_1, hsK_2, hsK_3, sRaise_w, sFor_w, iSeq_w, seqOf_lst, seqOf_tup, seqOf_frz, iRng_w, loopK_nx, loopK_ct, loopK_bk, loopK_rt, for0, forN, loopF_nx, loopF_ct, loopF_bk, loopF_rt, loopF_ex, sWhile_w, nLc_w, lcB_ok, lc0, lcN, lcT_t, lcT_f, lcE_v, wipeE0, wipeE1, sTry_w, tryK_nx, tryK_rt, suiteK_nx, suiteK_rt, wipe0, wipe_v, wipe_n, wipe_o, call_w, callK_nx, callK_rt, callK_ex, vals0, vals1, List.length_cons, List.length_nil, List.replicate_succ, List.replicate_zero, List.cons_append, List.nil_append, List.getElem?_cons_zero, List.getElem?_cons_succ, List.set_cons_zero, List.set_cons_succ, Nat.reduceSub, Nat.reduceAdd, Nat.zero_add, Bool.not_true, Bool.not_false, Bool.and_self, Bool.and_true, Bool.and_false])]
  have rg5 := range0 (w := w5) ls.length (by omega)
  by_cases h0 : sW ls = 0
  · have q0 : ((sW ls).num == 0 && ((sW ls).den : Int) == 1) = true := by rw [h0]; rfl
    have m1 := fun w => middle_0 (w := w) (f := gv) (c := D.lst) (.inr rfl) (.inl rfl) oz hsz h0
    have m2 := fun w => tog_0 (w := w) (f := ld) (c := D.lst) (.inl rfl) (.inl rfl) oz hsz h0
    have m3 := fun w => middle_0 (w := w) (f := ld) (c := D.lst) (.inl rfl) (.inl rfl) ozr hsr (by rw [sW_rev]; exact h0)
    simp only [List.length_reverse] at m3
    simp only [bind_w, bindK_ok, bindK_ex, ret_w, fail_w, eVar_w, varK_v, eC_w, eUn_w, eBin_w, evs0_w, evs1_w, eTup_w, eLst_w, eCall_w, eIf_w, ifE_t, ifE_f, eAnd_w, andE_t, andE_f, eOr_w, orE_t, orE_f, eNot_w, eChain_w, chainM_w, eJs_w, js0, js1, chainK_t, chainK_f, eNew_w, eHand_w, handK_ok, eXf_w, tVal_w, tTru_w, tNot_w, tYes_w, tAnd_w, tOr_w, andT_t, andT_f, orT_t, orT_f, boolOf_w, truth_bl, truth_int, truth_non, truth_lst, truth_tup, truth_frz, add_int, sub_int, neg_int, lt_int, le_int, gt_int, ge_int, isNon_w, notNon_w, is_w, isNot_w, int_w, abs_w, gcd_w, tup_w, tupt_w, list_w, listl_w, len_lst, len_tup, len_frz, un1_w, bin2_w, eq_int, ne_int, eq_pair, ne_pair, ix_lst, ix_frz, ix_tup, ix_hand, itK_v, item0, item1, item2, item3, isi_int_i, isi_int_b, isi_int_n, isi_int_s, isi_int_t, isi_int_l, isi_int_f, isi_int_h, isi_bool_i, isi_bool_b, isi_bool_n, isi_bool_s, isi_bool_t, isi_bool_l, isi_bool_f, isi_bool_h, isi_str_i, isi_str_b, isi_str_n, isi_str_s, isi_str_t, isi_str_l, isi_str_f, isi_str_h, isi_tuple_i, isi_tuple_b, isi_tuple_n, isi_tuple_s, isi_tuple_t, isi_tuple_l, isi_tuple_f, isi_tuple_h, isi_list_i, isi_list_b, isi_list_n, isi_list_s, isi_list_t, isi_list_l, isi_list_f, isi_list_h, isi_dict_i, isi_dict_b, isi_dict_n, isi_dict_s, isi_dict_t, isi_dict_l, isi_dict_f, isi_dict_h, sSeq_w, seqK_nx, seqK_rt, seqK_bk, seqK_ct, seqK_ex, onK_ok, onK_ex, sNext_w, sSet_w, sOwn_w, sFrz_w, frzK_v, sApp_w, sExpr_w, sRet_w, sRetN_w, sIf_w, ifK_t, ifK_f, sBrk_w, sCnt_w, sPar_w, parK_v, sUnp_w, unpK_2, unpK_3, unpK_4, sHSet_w, hsK_0, hsK_1, hsK_2, hsK_3, sRaise_w, sFor_w, iSeq_w, seqOf_lst, seqOf_tup, seqOf_frz, iRng_w, loopK_nx, loopK_ct, loopK_bk, loopK_rt, for0, forN, loopF_nx, loopF_ct, loopF_bk, loopF_rt, loopF_ex, sWhile_w, nLc_w, lcB_ok, lc0, lcN, lcT_t, lcT_f, lcE_v, wipeE0, wipeE1, sTry_w, tryK_nx, tryK_rt, suiteK_nx, suiteK_rt, wipe0, wipe_v, wipe_n, wipe_o, call_w, callK_nx, callK_rt, callK_ex, vals0, vals1, List.length_cons, List.length_nil, List.replicate_succ, List.replicate_zero, List.cons_append, List.nil_append, List.getElem?_cons_zero, List.getElem?_cons_succ, List.set_cons_zero, List.set_cons_succ, Nat.reduceSub, Nat.reduceAdd, Nat.zero_add, Bool.not_true, Bool.not_false, Bool.and_self, Bool.and_true, Bool.and_false, rp, t1, tt, tu, rs, t2, lc, tg, mg, same_pp, b1, q0, m1, m2, same_none, rg5, lcM_v _ _ _ _ lr]
    rw [turned _ _ ?r5 ?r2 ?r17]
    case r5 => rfl
    case r2 => rfl
    case r17 => simp only [List.length_cons, List.length_nil]; omega
    simp only [bind_w, bindK_ok, bindK_ex, ret_w, fail_w, eVar_w, varK_v, eC_w, eUn_w, eBin_w, evs0_w, evs1_w, eTup_w, eLst_w, eCall_w, eIf_w, ifE_t, ifE_f, eAnd_w, andE_t, andE_f, eOr_w, orE_t, orE_f, eNot_w, eChain_w, chainM_w, eJs_w, js0, js1, chainK_t, chainK_f, eNew_w, eHand_w, handK_ok, eXf_w, tVal_w, tTru_w, tNot_w, tYes_w, tAnd_w, tOr_w, andT_t, andT_f, orT_t, orT_f, boolOf_w, truth_bl, truth_int, truth_non, truth_lst, truth_tup, truth_frz, add_int, sub_int, neg_int, lt_int, le_int, gt_int, ge_int, isNon_w, notNon_w, is_w, isNot_w, int_w, abs_w, gcd_w, tup_w, tupt_w, list_w, listl_w, len_lst, len_tup, len_frz, un1_w, bin2_w, eq_int, ne_int, eq_pair, ne_pair, ix_lst, ix_frz, ix_tup, ix_hand, itK_v, item0, item1, item2, item3, isi_int_i, isi_int_b, isi_int_n, isi_int_s, isi_int_t, isi_int_l, isi_int_f, isi_int_h, isi_bool_i, isi_bool_b, isi_bool_n, isi_bool_s, isi_bool_t, isi_bool_l, isi_bool_f, isi_bool_h, isi_str_i, isi_str_b, isi_str_n, isi_str_s, isi_str_t, isi_str_l, isi_str_f, isi_str_h, isi_tuple_i, isi_tuple_b, isi_tuple_n, isi_tuple_s, isi_tuple_t, isi_tuple_l, isi_tuple_f, isi_tuple_h, isi_list_i, isi_list_b, isi_list_n, isi_list_s, isi_list_t, isi_list_l, isi_list_f, isi_list_h, isi_dict_i, isi_dict_b, isi_dict_n, isi_dict_s, isi_dict_t, isi_dict_l, isi_dict_f, isi_dict_h, sSeq_w, seqK_nx, seqK_rt, seqK_bk, seqK_ct, seqK_ex, onK_ok, onK_ex, sNext_w, sSet_w, sOwn_w, sFrz_w, frzK_v, sApp_w, sExpr_w, sRet_w, sRetN_w, sIf_w, ifK_t, ifK_f, sBrk_w, sCnt_w, sPar_w, parK_v, sUnp_w, unpK_2, unpK_3, unpK_4, sHSet_w, hsK_0, hsK_1, hsK_2, hsK_3, sRaise_w, sFor_w, iSeq_w, seqOf_lst, seqOf_tup, seqOf_frz, iRng_w, loopK_nx, loopK_ct, loopK_bk, loopK_rt, for0, forN, loopF_nx, loopF_ct, loopF_bk, loopF_rt, loopF_ex, sWhile_w, nLc_w, lcB_ok, lc0, lcN, lcT_t, lcT_f, lcE_v, wipeE0, wipeE1, sTry_w, tryK_nx, tryK_rt, suiteK_nx, suiteK_rt, wipe0, wipe_v, wipe_n, wipe_o, call_w, callK_nx, callK_rt, callK_ex, vals0, vals1, List.length_cons, List.length_nil, List.replicate_succ, List.replicate_zero, List.cons_append, List.nil_append, List.getElem?_cons_zero, List.getElem?_cons_succ, List.set_cons_zero, List.set_cons_succ, Nat.reduceSub, Nat.reduceAdd, Nat.zero_add, Bool.not_true, Bool.not_false, Bool.and_self, Bool.and_true, Bool.and_false, tr, mr, m3, b1, same_pp, same_none, rg5]
    obtain ⟨y7, y8, y17, y18, ep⟩ := leftL (w := w5) ok l8 (s0 := .val (.frz (ns.map D.int))) (s1 := .val .hand) (s2 := .val (.int (ls.length : Int))) (s3 := .val (.bl (g == 0))) (s4 := .val (.bl (z == 0))) (s6 := u6) (s9 := .val (.lst (ls.map gv))) (t0 := .val (.str (D.lst (ls.map gv)).py.shown)) (t1 := .val (.tup (ls.map ld))) (t3 := .val (rq (sA ls))) (t5 := .val (.lst [.str "none", .int (ls.length : Int)])) (t6 := .val (.lst (ls.reverse.map ld))) (t9 := .none) (v0 := .none) ls.length 0 u7 u8 .none .none (by omega)
    rw [ep]
    simp only [bind_w, bindK_ok, bindK_ex, ret_w, fail_w, eVar_w, varK_v, eC_w, eUn_w, eBin_w, evs0_w, evs1_w, eTup_w, eLst_w, eCall_w, eIf_w, ifE_t, ifE_f, eAnd_w, andE_t, andE_f, eOr_w, orE_t, orE_f, eNot_w, eChain_w, chainM_w, eJs_w, js0, js1, chainK_t, chainK_f, eNew_w, eHand_w, handK_ok, eXf_w, tVal_w, tTru_w, tNot_w, tYes_w, tAnd_w, tOr_w, andT_t, andT_f, orT_t, orT_f, boolOf_w, truth_bl, truth_int, truth_non, truth_lst, truth_tup, truth_frz, add_int, sub_int, neg_int, lt_int, le_int, gt_int, ge_int, isNon_w, notNon_w, is_w, isNot_w, int_w, abs_w, gcd_w, tup_w, tupt_w, list_w, listl_w, len_lst, len_tup, len_frz, un1_w, bin2_w, eq_int, ne_int, eq_pair, ne_pair, ix_lst, ix_frz, ix_tup, ix_hand, itK_v, item0, item1, item2, item3, isi_int_i, isi_int_b, isi_int_n, isi_int_s, isi_int_t, isi_int_l, isi_int_f, isi_int_h, isi_bool_i, isi_bool_b, isi_bool_n, isi_bool_s, isi_bool_t, isi_bool_l, isi_bool_f, isi_bool_h, isi_str_i, isi_str_b, isi_str_n, isi_str_s, isi_str_t, isi_str_l, isi_str_f, isi_str_h, isi_tuple_i, isi_tuple_b, isi_tuple_n, isi_tuple_s, isi_tuple_t, isi_tuple_l, isi_tuple_f, isi_tuple_h, isi_list_i, isi_list_b, isi_list_n, isi_list_s, isi_list_t, isi_list_l, isi_list_f, isi_list_h, isi_dict_i, isi_dict_b, isi_dict_n, isi_dict_s, isi_dict_t, isi_dict_l, isi_dict_f, isi_dict_h, sSeq_w, seqK_nx, seqK_rt, seqK_bk, seqK_ct, seqK_ex, onK_ok, onK_ex, sNext_w, sSet_w, sOwn_w, sFrz_w, frzK_v, sApp_w, sExpr_w, sRet_w, sRetN_w, sIf_w, ifK_t, ifK_f, sBrk_w, sCnt_w, sPar_w, parK_v, sUnp_w, unpK_2, unpK_3, unpK_4, sHSet_w, hsK_0, hsK_1, hsK_2, hsK_3, sRaise_w, sFor_w, iSeq_w, seqOf_lst, seqOf_tup, seqOf_frz, iRng_w, loopK_nx, loopK_ct, loopK_bk, loopK_rt, for0, forN, loopF_nx, loopF_ct, loopF_bk, loopF_rt, loopF_ex, sWhile_w, nLc_w, lcB_ok, lc0, lcN, lcT_t, lcT_f, lcE_v, wipeE0, wipeE1, sTry_w, tryK_nx, tryK_rt, suiteK_nx, suiteK_rt, wipe0, wipe_v, wipe_n, wipe_o, call_w, callK_nx, callK_rt, callK_ex, vals0, vals1, List.length_cons, List.length_nil, List.replicate_succ, List.replicate_zero, List.cons_append, List.nil_append, List.getElem?_cons_zero, List.getElem?_cons_succ, List.set_cons_zero, List.set_cons_succ, Nat.reduceSub, Nat.reduceAdd, Nat.zero_add, Bool.not_true, Bool.not_false, Bool.and_self, Bool.and_true, Bool.and_false, e6, r9, show rangeL 0 9 = [.int 0, .int 1, .int 2, .int 3, .int 4, .int 5, .int 6, .int 7, .int 8] from rfl, lcM_v _ _ _ _ l9, s1, s2, s3, s4, s5, s6, s7, s8, y1, y2, y3, y4, y5, y6, sl_lo]
  · have q0 : ((sW ls).num == 0 && ((sW ls).den : Int) == 1) = false := by
      have := q_beq (sW ls) 0
      rw [decide_eq_false h0] at this
      exact this
    have m1 := fun w => middle_w (w := w) (f := gv) (c := D.lst) (.inr rfl) (.inl rfl) oz hsz h0
    have m2 := fun w => tog_w (w := w) (f := gv) (c := D.lst) (.inr rfl) (.inl rfl) oz hsz h0
    have m3 := fun w => middle_w (w := w) (f := ld) (c := D.lst) (.inl rfl) (.inl rfl) ozr hsr (by rw [sW_rev]; exact h0)
    simp only [sW_rev, sA_rev, sB_rev] at m3
    have o1 := fun w => one_w (w := w) (f := ld) (c := D.lst) (.inl rfl) (.inl rfl) oz hsz h0
    have o2 := fun w => one_w (w := w) (f := gv) (c := D.lst) (.inr rfl) (.inl rfl) oz hsz h0
    have zW := szW oz hsz
    have zA := szA oz hsz
    have zB := szB oz hsz
    have v1 := fun w : Wd => lover_q (w := w) zA zW h0 (by omega)
    have v2 := fun w : Wd => lover_q (w := w) zB zW h0 (by omega)
    have dW : LdSz 1000 ⟨sW ls, sA ls / sW ls, sB ls / sW ls⟩ := ⟨zW.mono (by omega), (zA.div zW h0).mono (by omega), (zB.div zW h0).mono (by omega)⟩
    obtain ⟨o3, o4⟩ := oneS dW rfl
    have cA : sW ls * (sA ls / sW ls) = sA ls := by rw [Rat.mul_comm, Rat.div_mul_cancel h0]
    have cB : sW ls * (sB ls / sW ls) = sB ls := by rw [Rat.mul_comm, Rat.div_mul_cancel h0]
    simp only [cA, cB] at o4
    have o5 : ∀ w, F__law_tuples 6 [.tup [ld ⟨sW ls, sA ls / sW ls, sB ls / sW ls⟩]] w = .ok (.bl true) w := fun w => tu_lds (ls := [⟨sW ls, sA ls / sW ls, sB ls / sW ls⟩]) (by simp)
    have o6 := fun w => same_one (w := w) ⟨sW ls, sA ls / sW ls, sB ls / sW ls⟩
    simp only [bind_w, bindK_ok, bindK_ex, ret_w, fail_w, eVar_w, varK_v, eC_w, eUn_w, eBin_w, evs0_w, evs1_w, eTup_w, eLst_w, eCall_w, eIf_w, ifE_t, ifE_f, eAnd_w, andE_t, andE_f, eOr_w, orE_t, orE_f, eNot_w, eChain_w, chainM_w, eJs_w, js0, js1, chainK_t, chainK_f, eNew_w, eHand_w, handK_ok, eXf_w, tVal_w, tTru_w, tNot_w, tYes_w, tAnd_w, tOr_w, andT_t, andT_f, orT_t, orT_f, boolOf_w, truth_bl, truth_int, truth_non, truth_lst, truth_tup, truth_frz, add_int, sub_int, neg_int, lt_int, le_int, gt_int, ge_int, isNon_w, notNon_w, is_w, isNot_w, int_w, abs_w, gcd_w, tup_w, tupt_w, list_w, listl_w, len_lst, len_tup, len_frz, un1_w, bin2_w, eq_int, ne_int, eq_pair, ne_pair, ix_lst, ix_frz, ix_tup, ix_hand, itK_v, item0, item1, item2, item3, isi_int_i, isi_int_b, isi_int_n, isi_int_s, isi_int_t, isi_int_l, isi_int_f, isi_int_h, isi_bool_i, isi_bool_b, isi_bool_n, isi_bool_s, isi_bool_t, isi_bool_l, isi_bool_f, isi_bool_h, isi_str_i, isi_str_b, isi_str_n, isi_str_s, isi_str_t, isi_str_l, isi_str_f, isi_str_h, isi_tuple_i, isi_tuple_b, isi_tuple_n, isi_tuple_s, isi_tuple_t, isi_tuple_l, isi_tuple_f, isi_tuple_h, isi_list_i, isi_list_b, isi_list_n, isi_list_s, isi_list_t, isi_list_l, isi_list_f, isi_list_h, isi_dict_i, isi_dict_b, isi_dict_n, isi_dict_s, isi_dict_t, isi_dict_l, isi_dict_f, isi_dict_h, sSeq_w, seqK_nx, seqK_rt, seqK_bk, seqK_ct, seqK_ex, onK_ok, onK_ex, sNext_w, sSet_w, sOwn_w, sFrz_w, frzK_v, sApp_w, sExpr_w, sRet_w, sRetN_w, sIf_w, ifK_t, ifK_f, sBrk_w, sCnt_w, sPar_w, parK_v, sUnp_w, unpK_2, unpK_3, unpK_4, sHSet_w, hsK_0, hsK_1, hsK_2, hsK_3, sRaise_w, sFor_w, iSeq_w, seqOf_lst, seqOf_tup, seqOf_frz, iRng_w, loopK_nx, loopK_ct, loopK_bk, loopK_rt, for0, forN, loopF_nx, loopF_ct, loopF_bk, loopF_rt, loopF_ex, sWhile_w, nLc_w, lcB_ok, lc0, lcN, lcT_t, lcT_f, lcE_v, wipeE0, wipeE1, sTry_w, tryK_nx, tryK_rt, suiteK_nx, suiteK_rt, wipe0, wipe_v, wipe_n, wipe_o, call_w, callK_nx, callK_rt, callK_ex, vals0, vals1, List.length_cons, List.length_nil, List.replicate_succ, List.replicate_zero, List.cons_append, List.nil_append, List.getElem?_cons_zero, List.getElem?_cons_succ, List.set_cons_zero, List.set_cons_succ, Nat.reduceSub, Nat.reduceAdd, Nat.zero_add, Bool.not_true, Bool.not_false, Bool.and_self, Bool.and_true, Bool.and_false, rp, t1, tt, tu, rs, t2, lc, tg, mg, same_pp, b1, q0, m1, m2, v1, v2, o1, o2, o3, o4, o5, o6, rg5, lcM_v _ _ _ _ lr]
    rw [turned _ _ ?r5 ?r2 ?r17]
    case r5 => rfl
    case r2 => rfl
    case r17 => simp only [List.length_cons, List.length_nil]; omega
    simp only [bind_w, bindK_ok, bindK_ex, ret_w, fail_w, eVar_w, varK_v, eC_w, eUn_w, eBin_w, evs0_w, evs1_w, eTup_w, eLst_w, eCall_w, eIf_w, ifE_t, ifE_f, eAnd_w, andE_t, andE_f, eOr_w, orE_t, orE_f, eNot_w, eChain_w, chainM_w, eJs_w, js0, js1, chainK_t, chainK_f, eNew_w, eHand_w, handK_ok, eXf_w, tVal_w, tTru_w, tNot_w, tYes_w, tAnd_w, tOr_w, andT_t, andT_f, orT_t, orT_f, boolOf_w, truth_bl, truth_int, truth_non, truth_lst, truth_tup, truth_frz, add_int, sub_int, neg_int, lt_int, le_int, gt_int, ge_int, isNon_w, notNon_w, is_w, isNot_w, int_w, abs_w, gcd_w, tup_w, tupt_w, list_w, listl_w, len_lst, len_tup, len_frz, un1_w, bin2_w, eq_int, ne_int, eq_pair, ne_pair, ix_lst, ix_frz, ix_tup, ix_hand, itK_v, item0, item1, item2, item3, isi_int_i, isi_int_b, isi_int_n, isi_int_s, isi_int_t, isi_int_l, isi_int_f, isi_int_h, isi_bool_i, isi_bool_b, isi_bool_n, isi_bool_s, isi_bool_t, isi_bool_l, isi_bool_f, isi_bool_h, isi_str_i, isi_str_b, isi_str_n, isi_str_s, isi_str_t, isi_str_l, isi_str_f, isi_str_h, isi_tuple_i, isi_tuple_b, isi_tuple_n, isi_tuple_s, isi_tuple_t, isi_tuple_l, isi_tuple_f, isi_tuple_h, isi_list_i, isi_list_b, isi_list_n, isi_list_s, isi_list_t, isi_list_l, isi_list_f, isi_list_h, isi_dict_i, isi_dict_b, isi_dict_n, isi_dict_s, isi_dict_t, isi_dict_l, isi_dict_f, isi_dict_h, sSeq_w, seqK_nx, seqK_rt, seqK_bk, seqK_ct, seqK_ex, onK_ok, onK_ex, sNext_w, sSet_w, sOwn_w, sFrz_w, frzK_v, sApp_w, sExpr_w, sRet_w, sRetN_w, sIf_w, ifK_t, ifK_f, sBrk_w, sCnt_w, sPar_w, parK_v, sUnp_w, unpK_2, unpK_3, unpK_4, sHSet_w, hsK_0, hsK_1, hsK_2, hsK_3, sRaise_w, sFor_w, iSeq_w, seqOf_lst, seqOf_tup, seqOf_frz, iRng_w, loopK_nx, loopK_ct, loopK_bk, loopK_rt, for0, forN, loopF_nx, loopF_ct, loopF_bk, loopF_rt, loopF_ex, sWhile_w, nLc_w, lcB_ok, lc0, lcN, lcT_t, lcT_f, lcE_v, wipeE0, wipeE1, sTry_w, tryK_nx, tryK_rt, suiteK_nx, suiteK_rt, wipe0, wipe_v, wipe_n, wipe_o, call_w, callK_nx, callK_rt, callK_ex, vals0, vals1, List.length_cons, List.length_nil, List.replicate_succ, List.replicate_zero, List.cons_append, List.nil_append, List.getElem?_cons_zero, List.getElem?_cons_succ, List.set_cons_zero, List.set_cons_succ, Nat.reduceSub, Nat.reduceAdd, Nat.zero_add, Bool.not_true, Bool.not_false, Bool.and_self, Bool.and_true, Bool.and_false, tr, mr, m3, b1, same_pp, rg5]
    obtain ⟨y7, y8, y17, y18, ep⟩ := leftL (w := w5) ok l8 (s0 := .val (.frz (ns.map D.int))) (s1 := .val .hand) (s2 := .val (.int (ls.length : Int))) (s3 := .val (.bl (g == 0))) (s4 := .val (.bl (z == 0))) (s6 := u6) (s9 := .val (.lst (ls.map gv))) (t0 := .val (.str (D.lst (ls.map gv)).py.shown)) (t1 := .val (.tup (ls.map ld))) (t3 := .val (rq (sA ls))) (t5 := .val (.tup [rq (sA ls / sW ls), rq (sB ls / sW ls)])) (t6 := .val (.lst (ls.reverse.map ld))) (t9 := .none) (v0 := .none) ls.length 0 u7 u8 .none .none (by omega)
    rw [ep]
    simp only [bind_w, bindK_ok, bindK_ex, ret_w, fail_w, eVar_w, varK_v, eC_w, eUn_w, eBin_w, evs0_w, evs1_w, eTup_w, eLst_w, eCall_w, eIf_w, ifE_t, ifE_f, eAnd_w, andE_t, andE_f, eOr_w, orE_t, orE_f, eNot_w, eChain_w, chainM_w, eJs_w, js0, js1, chainK_t, chainK_f, eNew_w, eHand_w, handK_ok, eXf_w, tVal_w, tTru_w, tNot_w, tYes_w, tAnd_w, tOr_w, andT_t, andT_f, orT_t, orT_f, boolOf_w, truth_bl, truth_int, truth_non, truth_lst, truth_tup, truth_frz, add_int, sub_int, neg_int, lt_int, le_int, gt_int, ge_int, isNon_w, notNon_w, is_w, isNot_w, int_w, abs_w, gcd_w, tup_w, tupt_w, list_w, listl_w, len_lst, len_tup, len_frz, un1_w, bin2_w, eq_int, ne_int, eq_pair, ne_pair, ix_lst, ix_frz, ix_tup, ix_hand, itK_v, item0, item1, item2, item3, isi_int_i, isi_int_b, isi_int_n, isi_int_s, isi_int_t, isi_int_l, isi_int_f, isi_int_h, isi_bool_i, isi_bool_b, isi_bool_n, isi_bool_s, isi_bool_t, isi_bool_l, isi_bool_f, isi_bool_h, isi_str_i, isi_str_b, isi_str_n, isi_str_s, isi_str_t, isi_str_l, isi_str_f, isi_str_h, isi_tuple_i, isi_tuple_b, isi_tuple_n, isi_tuple_s, isi_tuple_t, isi_tuple_l, isi_tuple_f, isi_tuple_h, isi_list_i, isi_list_b, isi_list_n, isi_list_s, isi_list_t, isi_list_l, isi_list_f, isi_list_h, isi_dict_i, isi_dict_b, isi_dict_n, isi_dict_s, isi_dict_t, isi_dict_l, isi_dict_f, isi_dict_h, sSeq_w, seqK_nx, seqK_rt, seqK_bk, seqK_ct, seqK_ex, onK_ok, onK_ex, sNext_w, sSet_w, sOwn_w, sFrz_w, frzK_v, sApp_w, sExpr_w, sRet_w, sRetN_w, sIf_w, ifK_t, ifK_f, sBrk_w, sCnt_w, sPar_w, parK_v, sUnp_w, unpK_2, unpK_3, unpK_4, sHSet_w, hsK_0, hsK_1, hsK_2, hsK_3, sRaise_w, sFor_w, iSeq_w, seqOf_lst, seqOf_tup, seqOf_frz, iRng_w, loopK_nx, loopK_ct, loopK_bk, loopK_rt, for0, forN, loopF_nx, loopF_ct, loopF_bk, loopF_rt, loopF_ex, sWhile_w, nLc_w, lcB_ok, lc0, lcN, lcT_t, lcT_f, lcE_v, wipeE0, wipeE1, sTry_w, tryK_nx, tryK_rt, suiteK_nx, suiteK_rt, wipe0, wipe_v, wipe_n, wipe_o, call_w, callK_nx, callK_rt, callK_ex, vals0, vals1, List.length_cons, List.length_nil, List.replicate_succ, List.replicate_zero, List.cons_append, List.nil_append, List.getElem?_cons_zero, List.getElem?_cons_succ, List.set_cons_zero, List.set_cons_succ, Nat.reduceSub, Nat.reduceAdd, Nat.zero_add, Bool.not_true, Bool.not_false, Bool.and_self, Bool.and_true, Bool.and_false, e6, r9, show rangeL 0 9 = [.int 0, .int 1, .int 2, .int 3, .int 4, .int 5, .int 6, .int 7, .int 8] from rfl, lcM_v _ _ _ _ l9, s1, s2, s3, s4, s5, s6, s7, s8, y1, y2, y3, y4, y5, y6, sl_lo]
end K07

open PySem PySem.W PyProof.Rows
set_option maxRecDepth 100000 in
set_option maxHeartbeats 0 in
theorem PySem.Challenge.cw_wherelaid_k07_whole_loads_and_their_cent_holds : PySem.Challenge.rw_wherelaid_k07_whole_loads_and_their_cent.Holds := by
  w_on; o_law; k_head; (case hw => w_witness2)
  k_fill
  refine FL.law_endT (l := PySem.Challenge.rw_wherelaid_k07_whole_loads_and_their_cent) (F := K07.F_law) rfl (by decide) rfl (fun w h Y => PySem.W.kIn_of Y) K07.plain ?G
  case G =>
    intro w mg h KX GX
    refine K07.law_mk ?_
    refine' K07.all_mk KX GX ?hg_gcd ?hn_abs ?hn_bool ?hn_enumerate ?hn_int ?hn_isinstance ?hn_len ?hn_list ?hn_range ?hn_repr ?hn_tuple ?hc_SMALL ?hc_ZERO ?hd_ZERO ?xa_1 ?xe_1 ?xt_1 ?xl_1 ?xr_1 ?xs_1 ?xk_1 ?xi_1 ?xy_1 ?xL_1 ?xc_1 ?xK_1 ?xn_1_what ?xa_2 ?xe_2 ?xt_2 ?xl_2 ?xr_2 ?xs_2 ?xk_2 ?xi_2 ?xy_2 ?xL_2 ?xc_2 ?xK_2 ?xn_2_index ?xn_2_what ?xa_3 ?xe_3 ?xt_3 ?xl_3 ?xr_3 ?xs_3 ?xk_3 ?xi_3 ?xy_3 ?xL_3 ?xc_3 ?xK_3 ?xn_3_many ?xq_2 ?xq_3 ?xm_2_2 ?xm_3_3 ?xg_2 ?xh_2 ?xd_2 ?xg_3 ?xh_3 ?xd_3 ?da0 ?dl0 ?dc0 ?dk0 ?da1 ?dl1 ?dc1 ?dk1 ?da2 ?dl2 ?dc2 ?dk2 ?da3 ?dl3 ?dc3 ?dk3 ?dT3 ?dS3 ?dV3 ?da4 ?dl4 ?dc4 ?dk4 ?da5 ?dl5 ?dc5 ?dk5 ?da6 ?dl6 ?dc6 ?dk6 ?da7 ?dl7 ?dc7 ?dk7 ?da8 ?dl8 ?dc8 ?dk8 ?da9 ?dl9 ?dc9 ?dk9 ?da10 ?dl10 ?dc10 ?dk10 ?da11 ?dl11 ?dc11 ?dk11 ?da12 ?dl12 ?dc12 ?dk12 ?da13 ?dl13 ?dc13 ?dk13 ?da14 ?dl14 ?dc14 ?dk14 ?da15 ?dl15 ?dc15 ?dk15 ?da16 ?dl16 ?dc16 ?dk16 ?da17 ?dl17 ?dc17 ?dk17 ?da18 ?dl18 ?dc18 ?dk18 ?da19 ?dl19 ?dc19 ?dk19 ?da20 ?dl20 ?dc20 ?dk20 ?da21 ?dl21 ?dc21 ?dk21 ?da22 ?dl22 ?dc22 ?dk22 ?da23 ?dl23 ?dc23 ?dk23 ?da24 ?dl24 ?dc24 ?dk24 ?da25 ?dl25 ?dc25 ?dk25 ?da26 ?dl26 ?dc26 ?dk26 ?da27 ?dl27 ?dc27 ?dk27 ?da28 ?dl28 ?dc28 ?dk28 ?da29 ?dl29 ?dc29 ?dk29 ?da30 ?dl30 ?dc30 ?dk30 ?da31 ?dl31 ?dc31 ?dk31 ?da32 ?dl32 ?dc32 ?dk32 ?da33 ?dl33 ?dc33 ?dk33 ?da34 ?dl34 ?dc34 ?dk34 ?da35 ?dl35 ?dc35 ?dk35
    (case hg_gcd => k_is)
    (case hn_abs => k_is)
    (case hn_bool => k_is)
    (case hn_enumerate => k_is)
    (case hn_int => k_is)
    (case hn_isinstance => k_is)
    (case hn_len => k_is)
    (case hn_list => k_is)
    (case hn_range => k_is)
    (case hn_repr => k_is)
    (case hn_tuple => k_is)
    (case hc_SMALL => k_is)
    (case hc_ZERO => k_is)
    (case hd_ZERO => k_is)
    (case xa_1 => k_is)
    (case xe_1 => k_is)
    (case xt_1 => k_is)
    (case xl_1 => k_is)
    (case xr_1 => decide +kernel)
    (case xs_1 => k_is)
    (case xk_1 => k_is)
    (case xi_1 => k_is)
    (case xy_1 => k_is)
    (case xL_1 => k_is)
    (case xc_1 => k_is)
    (case xK_1 => k_is)
    (case xn_1_what => k_is)
    (case xa_2 => k_is)
    (case xe_2 => k_is)
    (case xt_2 => k_is)
    (case xl_2 => k_is)
    (case xr_2 => decide +kernel)
    (case xs_2 => k_is)
    (case xk_2 => k_is)
    (case xi_2 => k_is)
    (case xy_2 => k_is)
    (case xL_2 => k_is)
    (case xc_2 => k_is)
    (case xK_2 => k_is)
    (case xn_2_index => k_is)
    (case xn_2_what => k_is)
    (case xa_3 => k_is)
    (case xe_3 => k_is)
    (case xt_3 => k_is)
    (case xl_3 => k_is)
    (case xr_3 => decide +kernel)
    (case xs_3 => k_is)
    (case xk_3 => k_is)
    (case xi_3 => k_is)
    (case xy_3 => k_is)
    (case xL_3 => k_is)
    (case xc_3 => k_is)
    (case xK_3 => k_is)
    (case xn_3_many => k_is)
    (case xq_2 => k_is)
    (case xq_3 => k_is)
    (case xm_2_2 => first | rfl | k_is)
    (case xm_3_3 => first | rfl | k_is)
    (case xg_2 => k_is)
    (case xh_2 => k_is)
    (case xd_2 => k_is)
    (case xg_3 => k_is)
    (case xh_3 => k_is)
    (case xd_3 => k_is)
    (case da0 => k_is)
    (case dl0 => k_is)
    (case dc0 => k_is)
    (case dk0 => k_is)
    (case da1 => k_is)
    (case dl1 => k_is)
    (case dc1 => k_is)
    (case dk1 => k_is)
    (case da2 => k_is)
    (case dl2 => k_is)
    (case dc2 => k_is)
    (case dk2 => k_is)
    (case da3 => k_is)
    (case dl3 => k_is)
    (case dc3 => k_is)
    (case dk3 => k_is)
    (case dT3 => k_is)
    (case dS3 => exact rfl)
    (case dV3 => exact (.cons rfl (.cons rfl .nil)))
    (case da4 => k_is)
    (case dl4 => k_is)
    (case dc4 => k_is)
    (case dk4 => k_is)
    (case da5 => k_is)
    (case dl5 => k_is)
    (case dc5 => k_is)
    (case dk5 => k_is)
    (case da6 => k_is)
    (case dl6 => k_is)
    (case dc6 => k_is)
    (case dk6 => k_is)
    (case da7 => k_is)
    (case dl7 => k_is)
    (case dc7 => k_is)
    (case dk7 => k_is)
    (case da8 => k_is)
    (case dl8 => k_is)
    (case dc8 => k_is)
    (case dk8 => k_is)
    (case da9 => k_is)
    (case dl9 => k_is)
    (case dc9 => k_is)
    (case dk9 => k_is)
    (case da10 => k_is)
    (case dl10 => k_is)
    (case dc10 => k_is)
    (case dk10 => k_is)
    (case da11 => k_is)
    (case dl11 => k_is)
    (case dc11 => k_is)
    (case dk11 => k_is)
    (case da12 => k_is)
    (case dl12 => k_is)
    (case dc12 => k_is)
    (case dk12 => k_is)
    (case da13 => k_is)
    (case dl13 => k_is)
    (case dc13 => k_is)
    (case dk13 => k_is)
    (case da14 => k_is)
    (case dl14 => k_is)
    (case dc14 => k_is)
    (case dk14 => k_is)
    (case da15 => k_is)
    (case dl15 => k_is)
    (case dc15 => k_is)
    (case dk15 => k_is)
    (case da16 => k_is)
    (case dl16 => k_is)
    (case dc16 => k_is)
    (case dk16 => k_is)
    (case da17 => k_is)
    (case dl17 => k_is)
    (case dc17 => k_is)
    (case dk17 => k_is)
    (case da18 => k_is)
    (case dl18 => k_is)
    (case dc18 => k_is)
    (case dk18 => k_is)
    (case da19 => k_is)
    (case dl19 => k_is)
    (case dc19 => k_is)
    (case dk19 => k_is)
    (case da20 => k_is)
    (case dl20 => k_is)
    (case dc20 => k_is)
    (case dk20 => k_is)
    (case da21 => k_is)
    (case dl21 => k_is)
    (case dc21 => k_is)
    (case dk21 => k_is)
    (case da22 => k_is)
    (case dl22 => k_is)
    (case dc22 => k_is)
    (case dk22 => k_is)
    (case da23 => k_is)
    (case dl23 => k_is)
    (case dc23 => k_is)
    (case dk23 => k_is)
    (case da24 => k_is)
    (case dl24 => k_is)
    (case dc24 => k_is)
    (case dk24 => k_is)
    (case da25 => k_is)
    (case dl25 => k_is)
    (case dc25 => k_is)
    (case dk25 => k_is)
    (case da26 => k_is)
    (case dl26 => k_is)
    (case dc26 => k_is)
    (case dk26 => k_is)
    (case da27 => k_is)
    (case dl27 => k_is)
    (case dc27 => k_is)
    (case dk27 => k_is)
    (case da28 => k_is)
    (case dl28 => k_is)
    (case dc28 => k_is)
    (case dk28 => k_is)
    (case da29 => k_is)
    (case dl29 => k_is)
    (case dc29 => k_is)
    (case dk29 => k_is)
    (case da30 => k_is)
    (case dl30 => k_is)
    (case dc30 => k_is)
    (case dk30 => k_is)
    (case da31 => k_is)
    (case dl31 => k_is)
    (case dc31 => k_is)
    (case dk31 => k_is)
    (case da32 => k_is)
    (case dl32 => k_is)
    (case dc32 => k_is)
    (case dk32 => k_is)
    (case da33 => k_is)
    (case dl33 => k_is)
    (case dc33 => k_is)
    (case dk33 => k_is)
    (case da34 => k_is)
    (case dl34 => k_is)
    (case dc34 => k_is)
    (case dk34 => k_is)
    (case da35 => k_is)
    (case dl35 => k_is)
    (case dc35 => k_is)
    (case dk35 => k_is)

