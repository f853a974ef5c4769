import PyProof.Rows.All
import Wide.All
import OpenK.AllK
import Wide.FinOn
import PySem.Str
import HandS.ForMost
import HandS.Exc
import HandS.TryOnly
import HandS.ExcOwn
import HandS.WordsExc
import HandS.ExcInit
import HandS.ExcField
import HandS.Wide
import HandS.Gcd
import HandS.IsInst
import HandS.Flow
import HandS.Style
import HandS.Deep
import HandS.FStr
import HandS.ExcCtx
import HandS.HotCalls
import HandS.Walk
import HandS.Defaults
import HandS.More
import HandS.Iter
import KE.GoesMore
import KE.GoesEnum
import HandS.Ends
import HandS.OwnEq
import HandS.Property
import HandS.TryMany
import KE.KStateDown
import HandS.Head0
import HandS.Head1
import HandS.Head2
import HandS.Head3
import HandS.HeadEnd
import HandS.HeadHook1
import HandS.HeadHook2
import PyProof.P3In
import HandS.Hot
import HandS.List
import PySem.Challenge.RW_wherelaid_k02_whole_places_and_rows
set_option Elab.async false
set_option linter.all false
set_option maxRecDepth 100000
set_option maxHeartbeats 4000000
/-! F1: pure data, the monad of runs, the combinators that a def's mirror is made of. Core Lean alone. -/
namespace FL
open PySem

/-- pure data: what a Python value is when one forgets where it stands -/
inductive D where
  | non | bl (b : Bool) | int (i : Int) | str (x : Str)
  | tup (xs : List D) | lst (xs : List D)
  /-- a list that is only read: the script, a module's -/
  | frz (xs : List D)
  | ins (c : Nat) (ns : List Str) (xs : List D)
  | hand
  deriving Inhabited

/-- the one list that is changed by defs that get it passed: what it holds -/
abbrev Wd := Option (List D)
inductive R (α : Type) where
  | ok (a : α) (w : Wd)
  | ex (c : Nat) (ns : List Str) (xs : List D) (w : Wd)
  | bad
def M (α : Type) := Wd → R α
namespace M
def ret {α : Type} (a : α) : M α := fun w => .ok a w
def bind {α β : Type} (m : M α) (f : α → M β) : M β := fun w =>
  match m w with
  | .ok a w' => f a w'
  | .ex c ns xs w' => .ex c ns xs w'
  | .bad => .bad
def fail {α : Type} : M α := fun _ => .bad
def raise {α : Type} (c : Nat) (ns : List Str) (xs : List D) : M α := fun w => .ex c ns xs w
def get : M Wd := fun w => .ok w w
def put (w : Wd) : M Unit := fun _ => .ok () w
end M
instance : Monad M where
  pure := M.ret
  bind := M.bind
section
variable {α β γ : Type}
theorem bind_def (m : M α) (f : α → M β) : m >>= f = M.bind m f := rfl
theorem pure_def (a : α) : (pure a : M α) = M.ret a := rfl
@[simp] theorem ret_bind (a : α) (f : α → M β) : M.bind (M.ret a) f = f a := rfl
@[simp] theorem fail_bind (f : α → M β) : M.bind (M.fail : M α) f = M.fail := rfl
@[simp] theorem raise_bind (c : Nat) (ns : List Str) (xs : List D) (f : α → M β) : M.bind (M.raise c ns xs : M α) f = M.raise c ns xs := rfl
@[simp] theorem bind_bind (m : M α) (f : α → M β) (g : β → M γ) : M.bind (M.bind m f) g = M.bind m fun a => M.bind (f a) g := by
  funext w; unfold M.bind; cases m w <;> rfl
theorem bind_ret (m : M α) : M.bind m M.ret = m := by
  funext w; unfold M.bind M.ret; cases m w <;> rfl
@[simp] theorem ret_ap (a : α) (w : Wd) : M.ret a w = .ok a w := rfl
@[simp] theorem fail_ap (w : Wd) : (M.fail : M α) w = .bad := rfl
@[simp] theorem raise_ap (c : Nat) (ns : List Str) (xs : List D) (w : Wd) : (M.raise c ns xs : M α) w = .ex c ns xs w := rfl
theorem bind_ap (m : M α) (f : α → M β) (w : Wd) : M.bind m f w = match m w with
  | .ok a w' => f a w' | .ex c ns xs w' => .ex c ns xs w' | .bad => .bad := rfl
@[simp] theorem ite_bind (p : Prop) [Decidable p] (a b : M α) (f : α → M β) : M.bind (if p then a else b) f = if p then M.bind a f else M.bind b f := by
  split <;> rfl
@[simp] theorem ite_ap (p : Prop) [Decidable p] (a b : M α) (w : Wd) : (if p then a else b) w = if p then a w else b w := by
  split <;> rfl
end

/-! ### slots -/
inductive Slot where
  | none
  | val (d : D)
  /-- a list of the def's own, that no one else holds -/
  | own (xs : List D)
  /-- an error that an except suite holds: its class, its fields -/
  | exc (c : Nat) (ns : List Str) (xs : List D)
  /-- the object that is being made (its first parameter's place) -/
  | slf
  /-- a list that the def has made; the lists in it are its own making, too -/
  | nest (ds : List D)
  deriving Inhabited
abbrev Env := List Slot
def vals (ds : List D) : Env := ds.map .val

/-! ### operations on data -/
def line : Nat := 16777216
def b2i (b : Bool) : Int := if b then 1 else 0
def guard (p : Prop) [Decidable p] (d : D) : M D := if p then M.ret d else M.fail
def boolOf : D → M Bool
  | .bl b => M.ret b
  | _ => M.fail
def truth : D → M Bool
  | .non => M.ret false
  | .bl b => M.ret b
  | .int i => M.ret (i != 0)
  | .str x => if x.length ≤ line then M.ret ((x.length : Int) != 0) else M.fail
  | .tup xs => M.ret (!xs.isEmpty)
  | .lst xs => M.ret (!xs.isEmpty)
  | .frz xs => M.ret (!xs.isEmpty)
  | _ => M.fail
def addD : D → D → M D
  | .int i, .int j => M.ret (.int (i + j))
  | .str a, .str b => if a.length + b.length ≤ line then M.ret (.str (a ++ b)) else M.fail
  | .lst a, .lst b => if a.length + b.length ≤ line then M.ret (.lst (a ++ b)) else M.fail
  | .tup a, .tup b => if a ≠ [] ∧ a.length + b.length ≤ line then M.ret (.tup (a ++ b)) else M.fail
  | _, _ => M.fail
def subD : D → D → M D
  | .int i, .int j => M.ret (.int (i - j))
  | _, _ => M.fail
def mulD : D → D → M D
  | .int i, .int j => if i.natAbs.log2 + j.natAbs.log2 < 1000000 then M.ret (.int (i * j)) else M.fail
  | _, _ => M.fail
def fdivD : D → D → M D
  | .int i, .int j => if j ≠ 0 ∧ j.natAbs.log2 < 9000 then M.ret (.int (i.fdiv j)) else M.fail
  | _, _ => M.fail
def modD : D → D → M D
  | .int i, .int j => if j ≠ 0 then M.ret (.int (i.fmod j)) else M.fail
  | _, _ => M.fail
def powD : D → D → M D
  | .int i, .int j => if 0 ≤ j ∧ j ≤ 1000000 ∧ i.natAbs < 2 ^ 64 then M.ret (.int (i ^ j.toNat)) else M.fail
  | _, _ => M.fail
def negD : D → M D
  | .int i => M.ret (.int (-i))
  | _ => M.fail
def ltD : D → D → M D
  | .int i, .int j => M.ret (.bl (decide (i < j)))
  | _, _ => M.fail
def leD : D → D → M D
  | .int i, .int j => M.ret (.bl (decide (i ≤ j)))
  | _, _ => M.fail
def gtD : D → D → M D
  | .int i, .int j => M.ret (.bl (decide (j < i)))
  | _, _ => M.fail
def geD : D → D → M D
  | .int i, .int j => M.ret (.bl (decide (j ≤ i)))
  | _, _ => M.fail

/-! ### == -/
mutual
/-- == of data without objects -/
def D.eqv : D → D → Bool
  | .non, .non => true
  | .bl a, .bl b => a == b
  | .bl a, .int j => (if a then 1 else 0) == j
  | .int i, .bl b => i == (if b then 1 else 0)
  | .int i, .int j => i == j
  | .str x, .str y => x == y
  | .lst xs, .lst ys => D.eqvL xs ys
  | .tup xs, .tup ys => D.eqvL xs ys
  | _, _ => false
def D.eqvL : List D → List D → Bool
  | [], [] => true
  | x :: xs, y :: ys => D.eqv x y && D.eqvL xs ys
  | _, _ => false
end
mutual
/-- data that == is known of: no objects, depth at most n -/
def D.flat : Nat → D → Bool
  | _, .non | _, .bl _ | _, .int _ => true
  | _, .str x => x.cps.all (· < 0x110000)
  | n + 1, .lst xs | n + 1, .tup xs => D.flatL n xs
  | _, _ => false
def D.flatL : Nat → List D → Bool
  | _, [] => true
  | n, x :: xs => D.flat n x && D.flatL n xs
end
def eqD (a b : D) : M D := if D.flat 60 a = true ∧ D.flat 60 b = true then M.ret (.bl (D.eqv a b)) else M.fail
def neD (a b : D) : M D := if D.flat 60 a = true ∧ D.flat 60 b = true then M.ret (.bl (!D.eqv a b)) else M.fail
def D.scal : D → Bool
  | .non | .bl _ | .int _ | .str _ => true
  | _ => false
/-- x in xs, deep -/
def inD (x : D) : D → M D
  | .lst xs => if D.flat 60 x = true ∧ D.flatL 60 xs = true then M.ret (.bl (xs.any fun y => D.eqv y x)) else M.fail
  | .tup xs => if D.scal x = true ∧ xs.all D.scal = true then M.ret (.bl (xs.any fun y => D.eqv y x)) else M.fail
  | _ => M.fail
def notInD (x : D) (xs : D) : M D := M.bind (inD x xs) fun r => match r with
  | .bl b => M.ret (.bl (!b))
  | _ => M.fail
def D.isNon : D → Bool
  | .non => true
  | _ => false
def isNonD (a : D) : D → M D
  | .non => M.ret (.bl a.isNon)
  | _ => M.fail
def notNonD (a : D) : D → M D
  | .non => M.ret (.bl (!a.isNon))
  | _ => M.fail
/-- x is True, x is False -/
def isD : D → D → M D
  | .bl a, .bl b => M.ret (.bl (decide (a = b)))
  | _, _ => M.fail
def isNotD : D → D → M D
  | .bl a, .bl b => M.ret (.bl (!decide (a = b)))
  | _, _ => M.fail

/-! ### sequences -/
def seqOf : D → M (List D)
  | .lst xs | .tup xs | .frz xs => M.ret xs
  | _ => M.fail
def ixP (len : Nat) (k : Int) : Option Nat := if 0 ≤ k ∧ k < len then some k.toNat else if k < 0 ∧ 0 ≤ k + len then some (k + len).toNat else none
def itemAt {α : Type} (xs : List α) (k : Int) : Option α := match ixP xs.length k with
  | some j => xs[j]?
  | none => none
def ixL (xs : List D) : D → M D
  | .int i => match itemAt xs i with
    | some d => M.ret d
    | none => M.fail
  | _ => M.fail
def ixD : D → D → M D
  | .lst xs, i => ixL xs i
  | .frz xs, i => ixL xs i
  | .tup xs, i => ixL xs i
  | .hand, i => fun w => match w with
    | some xs => ixL xs i w
    | none => .bad
  | _, _ => M.fail
def cutAt (len dflt : Nat) : Option Int → Nat
  | none => dflt
  | some k => if 0 ≤ k then min k.toNat len else (k + len).toNat
def cutL {α : Type} (xs : List α) (lo hi : Option Int) : List α :=
  let a := cutAt xs.length 0 lo
  (xs.drop a).take (cutAt xs.length xs.length hi - a)
def sliceD (x : D) (lo hi : Option Int) : M D := match x with
  | .lst xs => M.ret (.lst (cutL xs lo hi))
  | .tup xs => if ¬ (cutAt xs.length 0 lo = 0 ∧ cutAt xs.length xs.length hi = xs.length) then M.ret (.tup (cutL xs lo hi)) else M.fail
  | _ => M.fail
def lenD : D → M D
  | .str x => if x.length ≤ line then M.ret (.int x.length) else M.fail
  | .lst xs | .tup xs | .frz xs => M.ret (.int xs.length)
  | .hand => fun w => match w with
    | some xs => .ok (.int xs.length) w
    | none => .bad
  | _ => M.fail
theorem lenD_str (x : Str) : lenD (.str x) = if x.length ≤ line then M.ret (.int x.length) else M.fail := rfl
@[simp] theorem lenD_lst (xs : List D) : lenD (.lst xs) = M.ret (.int xs.length) := rfl
@[simp] theorem lenD_tup (xs : List D) : lenD (.tup xs) = M.ret (.int xs.length) := rfl
@[simp] theorem lenD_frz (xs : List D) : lenD (.frz xs) = M.ret (.int xs.length) := rfl
def tupD : D → M D
  | .lst xs | .tup xs => M.ret (.tup xs)
  | _ => M.fail
def listD : D → M D
  | .lst xs | .tup xs => M.ret (.lst xs)
  | _ => M.fail
def rangeL (lo hi : Int) : List D := (List.range (hi - lo).toNat).map fun (k : Nat) => D.int (lo + (k : Int))
/-- far within what an index may be (a test that a symbol stops at once) -/
def near (i : Int) : Bool := Nat.ble i.natAbs 2305843009213693952
theorem near_of {i : Int} (h : near i = true) : -(2 ^ 62) ≤ i ∧ i < 2 ^ 62 := by
  have := Nat.le_of_ble_eq_true h
  omega
theorem of_near {i : Int} (h : -(2 ^ 61) ≤ i ∧ i < 2 ^ 61) : near i = true := Nat.ble_eq_true_of_le (by omega)
def rangeM (lo hi : D) : M (List D) := match lo, hi with
  | .int i, .int j => if (near i && near j) = true then M.ret (rangeL i j) else M.fail
  | _, _ => M.fail
def enumL (xs : List D) : List D := (xs.zipIdx).map fun p => D.tup [.int (p.2 : Int), p.1]
def zipL (xs ys : List D) : List D := (xs.zip ys).map fun p => D.tup [p.1, p.2]

/-! ### numbers -/
def intD : D → M D
  | .int i => M.ret (.int i)
  | .bl b => M.ret (.int (if b then 1 else 0))
  | _ => M.fail
def absD : D → M D
  | .int i => M.ret (.int (if i < 0 then -i else i))
  | _ => M.fail
def gcdD : D → D → M D
  | .int a, .int b => M.ret (.int ((Nat.gcd a.natAbs b.natAbs : Nat) : Int))
  | _, _ => M.fail
def strD : D → M D
  | .int i => if i.natAbs.log2 < 1920 then M.ret (.str (Str.ofString (toString i))) else M.fail
  | _ => M.fail

/-! ### isinstance -/
inductive Ty where
  | int | bool | str | tuple | list | dict
  | cls (c : Nat)
  deriving DecidableEq
def isT : Ty → D → Bool
  | .int, .int _ | .int, .bl _ | .bool, .bl _ | .str, .str _ | .tuple, .tup _ | .list, .lst _ | .list, .frz _ | .list, .hand => true
  | .cls c, .ins c' _ _ => c == c'
  | _, _ => false
def isiD (ts : List Ty) (d : D) : M D := M.ret (.bl (ts.any fun t => isT t d))

/-! ### expressions -/
abbrev EF := Env → M D
abbrev TF := Env → M Bool
def eVar (i : Nat) : EF := fun ρ => match ρ[i]? with
  | some (.val d) => M.ret d
  | some (.nest ds) => M.ret (.lst ds)
  | _ => M.fail
def eC (d : D) : EF := fun _ => M.ret d
def eUn (f : D → M D) (a : EF) : EF := fun ρ => M.bind (a ρ) f
def eBin (f : D → D → M D) (a b : EF) : EF := fun ρ => M.bind (a ρ) fun x => M.bind (b ρ) fun y => f x y
def evs : List EF → Env → M (List D)
  | [], _ => M.ret []
  | e :: es, ρ => M.bind (e ρ) fun x => M.bind (evs es ρ) fun xs => M.ret (x :: xs)
def eTup (es : List EF) : EF := fun ρ => M.bind (evs es ρ) fun xs => M.ret (.tup xs)
def eLst (es : List EF) : EF := fun ρ => M.bind (evs es ρ) fun xs => M.ret (.lst xs)
def eCall (F : List D → M D) (es : List EF) : EF := fun ρ => M.bind (evs es ρ) F
def eIf (t : TF) (a b : EF) : EF := fun ρ => M.bind (t ρ) fun c => if c = true then a ρ else b ρ
def eAnd (a b : EF) : EF := fun ρ => M.bind (a ρ) fun x => M.bind (boolOf x) fun c => if c = true then b ρ else M.ret (.bl false)
def eOr (a b : EF) : EF := fun ρ => M.bind (a ρ) fun x => M.bind (boolOf x) fun c => if c = true then M.ret (.bl true) else b ρ
/-- not x, by truth -/
def eNot (t : TF) : EF := fun ρ => M.bind (t ρ) fun c => M.ret (.bl (!c))
/-- a < b < c -/
def eChain (f g : D → D → M D) (a b c : EF) : EF := fun ρ => M.bind (a ρ) fun x => M.bind (b ρ) fun y => M.bind (f x y) fun r => M.bind (boolOf r) fun k =>
  if k = true then M.bind (c ρ) fun z => g y z else M.ret (.bl false)
def eSlice (a : EF) (lo hi : Option EF) : EF := fun ρ => M.bind (a ρ) fun x =>
  M.bind (match lo with | none => M.ret none | some e => M.bind (e ρ) fun y => match y with | .int i => M.ret (some i) | _ => M.fail) fun l =>
  M.bind (match hi with | none => M.ret none | some e => M.bind (e ρ) fun y => match y with | .int i => M.ret (some i) | _ => M.fail) fun h => sliceD x l h
/-- a new hand: the list of items, that is from now on the world's -/
def eHand (es : List EF) : EF := fun ρ => M.bind (evs es ρ) fun xs => fun w => match w with
  | none => .ok .hand (some xs)
  | some _ => .bad
/-- an object's or an error's field -/
def fldOf (f : Str) : List Str → List D → Option D
  | n :: ns, x :: xs => match fldOf f ns xs with
    | some d => some d
    | none => if n = f then some x else none
  | _, _ => none
def fldD (f : Str) : D → M D
  | .ins _ ns xs => match fldOf f ns xs with
    | some d => M.ret d
    | none => M.fail
  | _ => M.fail
/-- a field of the error that the suite holds in slot i -/
def eXf (i : Nat) (f : Str) : EF := fun ρ => match ρ[i]? with
  | some (.exc _ ns xs) => match fldOf f ns xs with
    | some d => M.ret d
    | none => M.fail
  | _ => M.fail

/-! tests -/
def tVal (e : EF) : TF := fun ρ => M.bind (e ρ) boolOf
def tTru (e : EF) : TF := fun ρ => M.bind (e ρ) truth
def tAnd (a b : TF) : TF := fun ρ => M.bind (a ρ) fun c => if c = true then b ρ else M.ret false
def tOr (a b : TF) : TF := fun ρ => M.bind (a ρ) fun c => if c = true then M.ret true else b ρ
def tNot (a : TF) : TF := fun ρ => M.bind (a ρ) fun c => M.ret (!c)
def tYes : TF := fun _ => M.ret true

/-! what is walked, and where an item goes -/
abbrev IF := Env → M (List D)
def iSeq (e : EF) : IF := fun ρ => M.bind (e ρ) seqOf
def iOwn (i : Nat) : IF := fun ρ => match ρ[i]? with
  | some (.own xs) => M.ret xs
  | _ => M.fail
def iRng (lo hi : EF) : IF := fun ρ => M.bind (lo ρ) fun x => M.bind (hi ρ) fun y => rangeM x y
def iEnum (e : EF) : IF := fun ρ => M.bind (e ρ) fun x => M.bind (seqOf x) fun xs => M.ret (enumL xs)
def iZip (a b : EF) : IF := fun ρ => M.bind (a ρ) fun x => M.bind (b ρ) fun y => M.bind (seqOf x) fun xs => M.bind (seqOf y) fun ys => M.ret (zipL xs ys)
abbrev GF := D → Env → Option Env
def gN (i : Nat) : GF := fun d ρ => some (ρ.set i (.val d))
def gAll : List Nat → List D → Env → Option Env
  | [], [], ρ => some ρ
  | i :: is, d :: ds, ρ => gAll is ds (ρ.set i (.val d))
  | _, _, _ => none
def gT (is : List Nat) : GF := fun d ρ => match d with
  | .tup ds => gAll is ds ρ
  | _ => none

/-- nothing may be raised -/
def noEx {α : Type} (m : M α) : M α := fun w => match m w with
  | .ok a w' => .ok a w'
  | _ => .bad
@[simp] theorem noEx_ret {α : Type} (a : α) : noEx (M.ret a) = M.ret a := rfl
theorem noEx_ap {α : Type} {m : M α} {w w' : Wd} {a : α} (h : m w = .ok a w') : noEx m w = .ok a w' := by unfold noEx; rw [h]
/-- [e for g in xs if t] -/
def lcL (g : GF) (t : TF) (e : EF) (ρ : Env) : List D → M (List D)
  | [] => M.ret []
  | x :: xs => match g x ρ with
    | none => M.fail
    | some ρ1 => M.bind (noEx (t ρ1)) fun c => if c = true then M.bind (noEx (e ρ1)) fun y => M.bind (lcL g t e ρ xs) fun ys => M.ret (y :: ys) else lcL g t e ρ xs
theorem lcL_cons {g : GF} {t : TF} {e : EF} {ρ ρ1 : Env} {x : D} {xs : List D} (eg : g x ρ = some ρ1) : lcL g t e ρ (x :: xs) =
    M.bind (noEx (t ρ1)) fun c => if c = true then M.bind (noEx (e ρ1)) fun y => M.bind (lcL g t e ρ xs) fun ys => M.ret (y :: ys) else lcL g t e ρ xs := by
  conv => lhs; unfold lcL
  rw [eg]
theorem lcL_true {β : Type} {g : GF} {t : TF} {e : EF} {ρ ρ1 : Env} {x d : D} {xs : List D} {w w3 w5 : Wd} {k : List D → M β} (eg : g x ρ = some ρ1) (et : t ρ1 w = .ok true w3) (ee : e ρ1 w3 = .ok d w5) :
    M.bind (lcL g t e ρ (x :: xs)) k w = M.bind (lcL g t e ρ xs) (fun ys => k (d :: ys)) w5 := by
  rw [lcL_cons eg]
  simp only [bind_bind, ret_bind]
  rw [bind_ap, noEx_ap et]
  simp only [if_true, bind_bind, ret_bind]
  rw [bind_ap, noEx_ap ee]
theorem lcL_false {β : Type} {g : GF} {t : TF} {e : EF} {ρ ρ1 : Env} {x : D} {xs : List D} {w w3 : Wd} {k : List D → M β} (eg : g x ρ = some ρ1) (et : t ρ1 w = .ok false w3) :
    M.bind (lcL g t e ρ (x :: xs)) k w = M.bind (lcL g t e ρ xs) k w3 := by
  rw [lcL_cons eg]
  simp only [bind_bind, ret_bind]
  rw [bind_ap, noEx_ap et]
  simp only [Bool.false_eq_true, if_false]
theorem noEx_bad {α : Type} {m : M α} {w : Wd} (h : ∀ a w', m w ≠ .ok a w') : noEx m w = .bad := by
  unfold noEx
  split
  · rename_i a w' e; exact absurd e (h a w')
  · rfl
theorem lcL_badt {β : Type} {g : GF} {t : TF} {e : EF} {ρ ρ1 : Env} {x : D} {xs : List D} {w : Wd} {k : List D → M β} (eg : g x ρ = some ρ1) (et : ∀ a w', t ρ1 w ≠ .ok a w') :
    M.bind (lcL g t e ρ (x :: xs)) k w = .bad := by
  rw [lcL_cons eg]
  simp only [bind_bind]
  rw [bind_ap, noEx_bad et]
theorem lcL_bade {β : Type} {g : GF} {t : TF} {e : EF} {ρ ρ1 : Env} {x : D} {xs : List D} {w w3 : Wd} {k : List D → M β} (eg : g x ρ = some ρ1) (et : t ρ1 w = .ok true w3) (ee : ∀ a w', e ρ1 w3 ≠ .ok a w') :
    M.bind (lcL g t e ρ (x :: xs)) k w = .bad := by
  rw [lcL_cons eg]
  simp only [bind_bind, ret_bind]
  rw [bind_ap, noEx_ap et]
  simp only [if_true, bind_bind, ret_bind]
  rw [bind_ap, noEx_bad ee]
def wipeE (ρ : Env) : List Nat → Env
  | [] => ρ
  | i :: is => (wipeE ρ is).set i .none
def nLc (src : IF) (is : List Nat) (g : GF) (t : TF) (e : EF) : Env → M (List D) := fun ρ => M.bind (src ρ) fun xs => if xs.length ≤ line then lcL g t e (wipeE ρ is) xs else M.fail
def eNew (f : Env → M (List D)) : EF := fun ρ => M.bind (f ρ) fun ys => M.ret (.lst ys)
def eLc (src : IF) (is : List Nat) (g : GF) (t : TF) (e : EF) : EF := eNew (nLc src is g t e)

/-! ### statements -/
inductive SR where
  | nx (ρ : Env) (w : Wd) | rt (d : D) (w : Wd) | bk (ρ : Env) (w : Wd) | ct (ρ : Env) (w : Wd)
  | ex (c : Nat) (ns : List Str) (xs : List D) (ρ : Env) (w : Wd)
  | bad
abbrev SF := Env → Wd → SR
def onE {α : Type} (m : M α) (ρ : Env) (w : Wd) (k : α → Wd → SR) : SR := match m w with
  | .ok a w' => k a w'
  | .ex c ns xs w' => .ex c ns xs ρ w'
  | .bad => .bad
def sNext : SF := fun ρ w => .nx ρ w
def sSeq (s t : SF) : SF := fun ρ w => match s ρ w with
  | .nx ρ' w' => t ρ' w'
  | r => r
def sSet (i : Nat) (e : EF) : SF := fun ρ w => onE (e ρ) ρ w fun d w' => .nx (ρ.set i (.val d)) w'
/-- a new list, the def's own -/
def sOwn (i : Nat) (f : Env → M (List D)) : SF := fun ρ w => onE (f ρ) ρ w fun ds w' => .nx (ρ.set i (.own ds)) w'
/-- from here on the list is not changed any more -/
def sFrz (i : Nat) : SF := fun ρ w => match ρ[i]? with
  | some (.own xs) => .nx (ρ.set i (.val (.lst xs))) w
  | _ => .bad
def sApp (i : Nat) (e : EF) : SF := fun ρ w => match ρ[i]? with
  | some (.own xs) => onE (e ρ) ρ w fun d w' => if xs.length < line then .nx (ρ.set i (.own (xs ++ [d]))) w' else .bad
  | _ => .bad
def sExpr (e : EF) : SF := fun ρ w => onE (e ρ) ρ w fun _ w' => .nx ρ w'
def sRet (e : EF) : SF := fun ρ w => onE (e ρ) ρ w fun d w' => .rt d w'
/-- return of a list of the def's own -/
def sRetOwn (i : Nat) : SF := fun ρ w => match ρ[i]? with
  | some (.own xs) => .rt (.lst xs) w
  | _ => .bad
def sRetN : SF := fun _ w => .rt .non w
def sIf (t : TF) (a b : SF) : SF := fun ρ w => onE (t ρ) ρ w fun c w' => if c = true then a ρ w' else b ρ w'
def sBrk : SF := fun ρ w => .bk ρ w
def sCnt : SF := fun ρ w => .ct ρ w
def sUnp (is : List Nat) (e : EF) : SF := fun ρ w => onE (e ρ) ρ w fun d w' => match gT is d ρ with
  | some ρ' => .nx ρ' w'
  | none => .bad
def sPar (i j : Nat) (a b : EF) : SF := fun ρ w => onE (evs [a, b] ρ) ρ w fun xs w' => match xs with
  | [x, y] => .nx ((ρ.set i (.val x)).set j (.val y)) w'
  | _ => .bad
def hsK (ρ : Env) (xs : List D) (w : Wd) : SR := match xs, w with
  | [d, .hand, .int i], some hs => match ixP hs.length i with
    | some j => .nx ρ (some (hs.set j d))
    | none => .bad
  | _, _ => .bad
theorem hsK_cases (ρ : Env) (xs : List D) (w : Wd) : hsK ρ xs w = .bad ∨ ∃ d i hs, xs = [d, .hand, .int i] ∧ w = some hs := by
  unfold hsK
  split
  · exact .inr ⟨_, _, _, rfl, rfl⟩
  · exact .inl rfl
/-- hand[k] = e -/
def sHSet (h k e : EF) : SF := fun ρ w => onE (M.bind (e ρ) fun d => M.bind (h ρ) fun o => M.bind (k ρ) fun j => M.ret [d, o, j]) ρ w (hsK ρ)
def sRaise (c : Nat) (ns : List Str) (es : List EF) : SF := fun ρ w => onE (evs es ρ) ρ w fun xs w' => .ex c ns xs ρ w'
/-- how a loop goes on behind a turn -/
def loopK (r : SR) (k : Env → Wd → SR) : SR := match r with
  | .nx ρ' w' => k ρ' w'
  | .ct ρ' w' => k ρ' w'
  | .bk ρ' w' => .nx ρ' w'
  | r => r
def forL (g : GF) (b : SF) : List D → Env → Wd → SR
  | [], ρ, w => .nx ρ w
  | x :: xs, ρ, w => match g x ρ with
    | none => .bad
    | some ρ1 => loopK (b ρ1 w) fun ρ' w' => forL g b xs ρ' w'
theorem forL_nil (g : GF) (b : SF) (ρ : Env) (w : Wd) : forL g b [] ρ w = .nx ρ w := rfl
theorem forL_cons {g : GF} {b : SF} {x : D} {xs : List D} {ρ ρ1 : Env} {w : Wd} (h : g x ρ = some ρ1) : forL g b (x :: xs) ρ w = loopK (b ρ1 w) fun ρ' w' => forL g b xs ρ' w' := by
  show (match g x ρ with | none => SR.bad | some ρ1 => loopK (b ρ1 w) fun ρ' w' => forL g b xs ρ' w') = _
  rw [h]
theorem forL_none {g : GF} {b : SF} {x : D} {xs : List D} {ρ : Env} {w : Wd} (h : g x ρ = none) : forL g b (x :: xs) ρ w = .bad := by
  show (match g x ρ with | none => SR.bad | some ρ1 => loopK (b ρ1 w) fun ρ' w' => forL g b xs ρ' w') = _
  rw [h]
def sFor (src : IF) (g : GF) (b : SF) : SF := fun ρ w => onE (src ρ) ρ w fun xs w' => forL g b xs ρ w'
def whileL (t : TF) (b : SF) : Nat → Env → Wd → SR
  | 0, _, _ => .bad
  | n + 1, ρ, w => onE (t ρ) ρ w fun c w' => if c = true then loopK (b ρ w') fun ρ' w2 => whileL t b n ρ' w2 else .nx ρ w'
/-- fuel: as many turns as the second function tells -/
def sWhile (fuel : Env → Wd → Nat) (t : TF) (b : SF) : SF := fun ρ w => whileL t b (fuel ρ w) ρ w
def wipeX (ρ : Env) : Env := ρ.map fun s => match s with
  | .exc _ _ _ | .slf => .none
  | s => s
/-- behind an except suite -/
def suiteK (i : Nat) (r : SR) : SR := match r with
  | .nx ρ2 w2 => .nx (wipeX (ρ2.set i .none)) w2
  | .bk ρ2 w2 => .bk (wipeX (ρ2.set i .none)) w2
  | .ct ρ2 w2 => .ct (wipeX (ρ2.set i .none)) w2
  | .rt d w2 => .rt d w2
  | _ => .bad
/-- try: body / except (one of cs) as n (slot i): suite; ks: the errors that pass -/
def sTry (body : SF) (cs ks : List Nat) (i : Nat) (suite : SF) : SF := fun ρ w => match body ρ w with
  | .ex c ns xs ρ' w' => if c ∈ cs then suiteK i (suite (ρ'.set i (.exc c ns xs)) w') else if c ∈ ks then .ex c ns xs ρ' w' else .bad
  | r => r

/-- a def: its slots, its body -/
def callF (n : Nat) (b : SF) (ds : List D) : M D := fun w => match b (vals ds ++ List.replicate (n - ds.length) .none) w with
  | .nx _ w' => .ok .non w'
  | .rt d w' => .ok d w'
  | .ex c ns xs _ w' => .ex c ns xs w'
  | _ => .bad
end FL

/-! F2: pure data against the abstract heap; the judgements. -/
namespace FL
open PySem
open L2 (V Hp HO Cx Inv VK TE TT TA TS TI TG PE PT PA PS PSs PI PG Ends XK WX RelV Vals Rd upd upd_same upd_ne ne_of_none)
abbrev NS := Addr → Prop
abbrev St := L2.St

section rep
variable (K : PySem.W.Frag) (cm : Nat → Addr)
def KL (a : Addr) (xs : List V) : Prop := ∃ (o : Obj) (its : Array Value) (n : Nat), K.lookup a = some o ∧ o.cls = .type "list" ∧ o.dict = none ∧ o.data = .seq its n ∧ its.size ≤ sizeLine ∧ Vals xs its.toList
def KT (a : Addr) (xs : List V) : Prop := ∃ (o : Obj) (its : Array Value) (n : Nat), K.lookup a = some o ∧ o.cls = .type "tuple" ∧ o.data = .seq its n ∧ its.size ≤ sizeLine ∧ Vals xs its.toList
def LN (H : Hp) (N : NS) (a : Addr) (xs : List V) : Prop := (¬ N a ∧ Rd H a (.lst xs)) ∨ KL K a xs
def TN (H : Hp) (N : NS) (a : Addr) (xs : List V) : Prop := (¬ N a ∧ Rd H a (.tup xs)) ∨ KT K a xs
mutual
/-- the value v, in the heap H, is the data d; nothing of it stands where N is. ph: the hand's list -/
def Rep (H : Hp) (N : NS) (ph : Option Addr) : D → V → Prop
  | .non, v => v = .non
  | .bl b, v => v = .bl b
  | .int i, v => v = .int i
  | .str x, v => v = .str x
  | .tup ds, v => ∃ a vs, v = .ref a ∧ TN K H N a vs ∧ RepL H N ph ds vs
  | .lst ds, v => ∃ a vs, v = .ref a ∧ (¬ N a ∧ H a = some (.lst vs)) ∧ RepL H N ph ds vs
  | .frz ds, v => ∃ a vs, v = .ref a ∧ LN K H N a vs ∧ RepL H N ph ds vs
  | .ins c ns ds, v => ∃ a dx vs, v = .ref a ∧ ¬ N a ∧ H a = some (.ins (cm c) dx (ns.zip vs)) ∧ ns.length = vs.length ∧ RepL H N ph ds vs
  | .hand, v => ∃ p, ph = some p ∧ v = .ref p
def RepL (H : Hp) (N : NS) (ph : Option Addr) : List D → List V → Prop
  | [], vs => vs = []
  | d :: ds, vs => ∃ v r, vs = v :: r ∧ Rep H N ph d v ∧ RepL H N ph ds r
end
end rep

section
variable {K : PySem.W.Frag} {cm : Nat → Addr} {H H' H1 H2 : Hp} {N N' N1 N2 : NS} {ph ph' ph1 ph2 : Option Addr} {a p : Addr} {xs : List V}
theorem LN.seq (h : LN K H N a xs) : L2.SqL K H a xs := h.elim (fun h => .inl h.2) .inr
theorem TN.seq (h : TN K H N a xs) : L2.SqT K H a xs := h.elim (fun h => .inl h.2) .inr
/-- what stands behind a step, as far as it is not of N -/
def Keep (H : Hp) (N : NS) (H' : Hp) (N' : NS) : Prop := (∀ b o, ¬ N b → H b = some o → H' b = some o) ∧ (∀ b o, H b = some o → N' b → N b)
theorem Keep.refl : Keep H N H N := ⟨fun _ _ _ h => h, fun _ _ _ h => h⟩
theorem Keep.trans (x : Keep H N H1 N1) (y : Keep H1 N1 H2 N2) : Keep H N H2 N2 := by
  refine ⟨fun b o n h => y.1 b o (fun q => n (x.2 b o h q)) (x.1 b o n h), fun b o h q => ?_⟩
  by_cases n : N b
  · exact n
  · exact x.2 b o h (y.2 b o (x.1 b o n h) q)
theorem Rd.keep {u : HO} (k : Keep H N H' N') (n : ¬ N a) (h : Rd H a u) : ¬ N' a ∧ Rd H' a u := by
  rcases h with h | ⟨o, h⟩
  · exact ⟨fun q => n (k.2 _ _ h q), .inl (k.1 _ _ n h)⟩
  · exact ⟨fun q => n (k.2 _ _ h q), .inr ⟨o, k.1 _ _ n h⟩⟩
theorem LN.keep (k : Keep H N H' N') (h : LN K H N a xs) : LN K H' N' a xs := by
  rcases h with ⟨n, h⟩ | h
  · exact .inl (Rd.keep k n h)
  · exact .inr h
theorem TN.keep (k : Keep H N H' N') (h : TN K H N a xs) : TN K H' N' a xs := by
  rcases h with ⟨n, h⟩ | h
  · exact .inl (Rd.keep k n h)
  · exact .inr h
def PhM (ph ph' : Option Addr) : Prop := ∀ p, ph = some p → ph' = some p
mutual
theorem Rep.keep (k : Keep H N H' N') (hp : PhM ph ph') : ∀ (d : D) (v : V), Rep K cm H N ph d v → Rep K cm H' N' ph' d v
  | .non, _, h => by simpa [Rep] using h
  | .bl _, _, h => by simpa [Rep] using h
  | .int _, _, h => by simpa [Rep] using h
  | .str _, _, h => by simpa [Rep] using h
  | .tup ds, v, h => by
    simp only [Rep] at h ⊢
    obtain ⟨a, vs, e, t, r⟩ := h
    exact ⟨a, vs, e, t.keep k, RepL.keep k hp ds vs r⟩
  | .lst ds, v, h => by
    simp only [Rep] at h ⊢
    obtain ⟨a, vs, e, ⟨n, t⟩, r⟩ := h
    exact ⟨a, vs, e, ⟨fun q => n (k.2 _ _ t q), k.1 _ _ n t⟩, RepL.keep k hp ds vs r⟩
  | .frz ds, v, h => by
    simp only [Rep] at h ⊢
    obtain ⟨a, vs, e, t, r⟩ := h
    exact ⟨a, vs, e, t.keep k, RepL.keep k hp ds vs r⟩
  | .ins c ns ds, v, h => by
    simp only [Rep] at h ⊢
    obtain ⟨a, dx, vs, e, n, t, l, r⟩ := h
    exact ⟨a, dx, vs, e, fun q => n (k.2 _ _ t q), k.1 _ _ n t, l, RepL.keep k hp ds vs r⟩
  | .hand, v, h => by
    simp only [Rep] at h ⊢
    obtain ⟨p, e, q⟩ := h
    exact ⟨p, hp p e, q⟩
theorem RepL.keep (k : Keep H N H' N') (hp : PhM ph ph') : ∀ (ds : List D) (vs : List V), RepL K cm H N ph ds vs → RepL K cm H' N' ph' ds vs
  | [], _, h => by simpa [RepL] using h
  | d :: ds, vs, h => by
    simp only [RepL] at h ⊢
    obtain ⟨v, r, e, h1, h2⟩ := h
    exact ⟨v, r, e, Rep.keep k hp d v h1, RepL.keep k hp ds r h2⟩
end
theorem RepL.length : ∀ {ds : List D} {vs : List V}, RepL K cm H N ph ds vs → ds.length = vs.length
  | [], _, h => by simp only [RepL] at h; subst h; rfl
  | d :: ds, vs, h => by
    simp only [RepL] at h
    obtain ⟨v, r, rfl, _, h2⟩ := h
    simp [RepL.length h2]
theorem RepL.get : ∀ {ds : List D} {vs : List V} {i : Nat} {d : D}, RepL K cm H N ph ds vs → ds[i]? = some d → ∃ v, vs[i]? = some v ∧ Rep K cm H N ph d v
  | [], _, _, _, _, h => by simp at h
  | d :: ds, vs, i, d', h, e => by
    simp only [RepL] at h
    obtain ⟨v, r, rfl, h1, h2⟩ := h
    cases i with
    | zero => simp at e; subst e; exact ⟨v, rfl, h1⟩
    | succ i => exact RepL.get (i := i) h2 (by simpa using e)
theorem RepL.got : ∀ {ds : List D} {vs : List V} {i : Nat} {v : V}, RepL K cm H N ph ds vs → vs[i]? = some v → ∃ d, ds[i]? = some d ∧ Rep K cm H N ph d v
  | [], _, _, _, h, e => by simp only [RepL] at h; subst h; simp at e
  | d :: ds, vs, i, v', h, e => by
    simp only [RepL] at h
    obtain ⟨v, r, rfl, h1, h2⟩ := h
    cases i with
    | zero => simp at e; subst e; exact ⟨d, rfl, h1⟩
    | succ i => exact RepL.got (i := i) h2 (by simpa using e)
theorem RepL.append : ∀ {ds es : List D} {vs ws : List V}, RepL K cm H N ph ds vs → RepL K cm H N ph es ws → RepL K cm H N ph (ds ++ es) (vs ++ ws)
  | [], _, _, _, h, q => by simp only [RepL] at h; subst h; exact q
  | d :: ds, es, vs, ws, h, q => by
    simp only [RepL] at h
    obtain ⟨v, r, rfl, h1, h2⟩ := h
    simp only [List.cons_append, RepL]
    exact ⟨v, r ++ ws, rfl, h1, RepL.append h2 q⟩
theorem RepL.one {d : D} {v : V} (h : Rep K cm H N ph d v) : RepL K cm H N ph [d] [v] := by
  simp only [RepL]; exact ⟨v, [], rfl, h, rfl⟩
theorem RepL.cons {d : D} {v : V} {ds : List D} {vs : List V} (h : Rep K cm H N ph d v) (q : RepL K cm H N ph ds vs) : RepL K cm H N ph (d :: ds) (v :: vs) := by
  simp only [RepL]; exact ⟨v, vs, rfl, h, q⟩
theorem RepL.nil : RepL K cm H N ph [] [] := by simp only [RepL]
theorem RepL.uncons {d : D} {ds : List D} {vs : List V} (h : RepL K cm H N ph (d :: ds) vs) : ∃ v r, vs = v :: r ∧ Rep K cm H N ph d v ∧ RepL K cm H N ph ds r := by
  simpa only [RepL] using h
theorem RepL.unnil {vs : List V} (h : RepL K cm H N ph [] vs) : vs = [] := by simpa only [RepL] using h
theorem RepL.set : ∀ {ds : List D} {vs : List V} {i : Nat} {d : D} {v : V}, RepL K cm H N ph ds vs → Rep K cm H N ph d v → RepL K cm H N ph (ds.set i d) (vs.set i v)
  | [], _, _, _, _, h, _ => by simp only [RepL] at h; subst h; simpa using RepL.nil
  | e :: ds, vs, i, d, v, h, q => by
    obtain ⟨x, r, rfl, h1, h2⟩ := h.uncons
    cases i with
    | zero => exact RepL.cons q h2
    | succ i => exact RepL.cons h1 (RepL.set h2 q)
theorem RepL.drop : ∀ {ds : List D} {vs : List V} (n : Nat), RepL K cm H N ph ds vs → RepL K cm H N ph (ds.drop n) (vs.drop n)
  | ds, vs, 0, h => h
  | [], _, n + 1, h => by cases h.unnil; exact RepL.nil
  | d :: ds, vs, n + 1, h => by
    obtain ⟨x, r, rfl, h1, h2⟩ := h.uncons
    exact RepL.drop n h2
theorem RepL.take : ∀ {ds : List D} {vs : List V} (n : Nat), RepL K cm H N ph ds vs → RepL K cm H N ph (ds.take n) (vs.take n)
  | ds, vs, 0, h => RepL.nil
  | [], _, n + 1, h => by cases h.unnil; exact RepL.nil
  | d :: ds, vs, n + 1, h => by
    obtain ⟨x, r, rfl, h1, h2⟩ := h.uncons
    exact RepL.cons h1 (RepL.take n h2)
theorem RepL.reverse : ∀ {ds : List D} {vs : List V}, RepL K cm H N ph ds vs → RepL K cm H N ph ds.reverse vs.reverse
  | [], _, h => by cases h.unnil; exact RepL.nil
  | d :: ds, vs, h => by
    obtain ⟨x, r, rfl, h1, h2⟩ := h.uncons
    rw [List.reverse_cons, List.reverse_cons]
    exact (RepL.reverse h2).append (RepL.one h1)

/-! ### the hand, the slots -/
def OO (O : NS) (ph : Option Addr) : NS := fun a => O a ∨ ph = some a
def HandOk (K : PySem.W.Frag) (cm : Nat → Addr) (H : Hp) (O : NS) : Option Addr → Wd → Prop
  | none, none => True
  | some p, some hs => ∃ vs, H p = some (.lst vs) ∧ RepL K cm H (OO O (some p)) (some p) hs vs
  | _, _ => False
/-- H' is H and more, but for the hand's list -/
def Ext (ph : Option Addr) (H H' : Hp) : Prop := ∀ b o, ph ≠ some b → H b = some o → H' b = some o
/-- the hand stays, or it is made now -/
def PhS (H : Hp) (ph ph' : Option Addr) : Prop := ph' = ph ∨ (ph = none ∧ ∃ p, ph' = some p ∧ H p = none)
theorem PhS.m (h : PhS H ph ph') : PhM ph ph' := fun p e => by
  rcases h with h | ⟨h, _⟩
  · rw [h]; exact e
  · rw [h] at e; cases e
theorem Ext.refl : Ext ph H H := fun _ _ _ h => h
theorem PhS.refl : PhS H ph ph := .inl rfl
theorem Ext.trans (x : Ext ph H H1) (s : PhS H ph ph1) (y : Ext ph1 H1 H2) : Ext ph H H2 := fun b o n h => by
  refine y b o (fun q => ?_) (x b o n h)
  rcases s with s | ⟨_, p, s, hp⟩
  · exact n (s ▸ q)
  · rw [s] at q; cases q; rw [hp] at h; cases h
theorem PhS.trans (x : Ext ph H H1) (s : PhS H ph ph1) (t : PhS H1 ph1 ph2) : PhS H ph ph2 := by
  rcases s with s | ⟨s0, p, s1, hp⟩
  · subst s
    rcases t with t | ⟨t0, p, t1, hp⟩
    · exact .inl t
    · refine .inr ⟨t0, p, t1, ?_⟩
      cases q : H p with
      | none => rfl
      | some o => rw [x p o (by rw [t0]; exact fun z => nomatch z) q] at hp; cases hp
  · rcases t with t | ⟨t0, _⟩
    · exact .inr ⟨s0, p, t.trans s1, hp⟩
    · rw [s1] at t0; cases t0
/-- what may be owned: a list, an object in the making -/
def OwnO (o : HO) : Prop := (∃ vs, o = .lst vs) ∨ ∃ C dx fs, o = .ins C dx fs
theorem OwnO.lst (vs : List V) : OwnO (.lst vs) := .inl ⟨vs, rfl⟩
/-- what is owned is there, and it is not the hand -/
def OTr (H : Hp) (O : NS) (ph : Option Addr) : Prop := ∀ a, O a → ph ≠ some a ∧ ∃ o, H a = some o ∧ OwnO o
theorem Ext.keep {O : NS} (x : Ext ph H H') (s : PhS H ph ph') : Keep H (OO O ph) H' (OO O ph') := by
  refine ⟨fun b o n h => x b o (fun q => n (.inr q)) h, fun b o h q => ?_⟩
  rcases q with q | q
  · exact .inl q
  · rcases s with s | ⟨_, p, s, hp⟩
    · exact .inr (s ▸ q)
    · rw [s] at q; cases q; rw [hp] at h; cases h
theorem OTr.ext {O : NS} (x : Ext ph H H') (s : PhS H ph ph') (h : OTr H O ph) : OTr H' O ph' := fun a o => by
  obtain ⟨n, u, e, k⟩ := h a o
  refine ⟨fun q => ?_, u, x a _ n e, k⟩
  rcases s with s | ⟨_, p, s, hp⟩
  · exact n (s ▸ q)
  · rw [s] at q; cases q; rw [hp] at e; cases e
/-- a new object p -/
theorem ext_new {o : HO} (hp : H p = none) : Ext ph H (upd H p o) := fun b u _ h => by rw [upd_ne (ne_of_none h hp)]; exact h
theorem HandOk.tr {O : NS} {w : Wd} (h : HandOk K cm H O ph w) {a : Addr} (e : ph = some a) : ∃ vs, H a = some (.lst vs) := by
  subst e
  cases w with
  | none => exact h.elim
  | some hs => obtain ⟨vs, h1, _⟩ := h; exact ⟨vs, h1⟩
theorem fresh_oo {O : NS} {w : Wd} (t : OTr H O ph) (h : HandOk K cm H O ph w) (hp : H p = none) : ¬ OO O ph p := fun q => by
  rcases q with q | q
  · obtain ⟨_, vs, e, _⟩ := t p q; rw [hp] at e; cases e
  · obtain ⟨vs, e⟩ := h.tr q; rw [hp] at e; cases e
/-- the heap grew, the hand as it was -/
theorem HandOk.keep {O O' : NS} {w : Wd} (h : HandOk K cm H O ph w) (k : Keep H (OO O ph) H' (OO O' ph)) (hh : ∀ p, ph = some p → ∀ o, H p = some o → H' p = some o) : HandOk K cm H' O' ph w := by
  cases ph with
  | none => cases w with
    | none => trivial
    | some hs => exact h.elim
  | some p =>
    cases w with
    | none => exact h.elim
    | some hs =>
      obtain ⟨vs, h1, h2⟩ := h
      exact ⟨vs, hh p rfl _ h1, h2.keep k (fun _ e => e) hs vs⟩
theorem HandOk.new {O : NS} {w : Wd} {o : HO} (h : HandOk K cm H O ph w) (hp : H p = none) : HandOk K cm (upd H p o) O ph w :=
  h.keep (Ext.keep (ext_new hp) PhS.refl) fun q _ u e => by rw [upd_ne (ne_of_none e hp)]; exact e
end
end FL

/-! F3: expressions. -/
namespace FL
open PySem
open L2 (V Hp HO Cx Inv VK TE TT TA TS TI TG PE PT PA PS PSs PI PG Ends XK WX RelV Vals Rd upd upd_same upd_ne ne_of_none EP TP AP OpR R2 CallR FnOk Room Binds)

section
variable (K : PySem.W.Frag) (cm : Nat → Addr) (xa : Option (Addr × Nat × Addr)) (O : NS)
/-- what a slot holds. xa: the error that the suite holds: its address, its class's number, its dict -/
def SlotR (H : Hp) (ph : Option Addr) : Slot → Option V → Prop
  | .none, _ => True
  | .val d, x => ∃ v, x = some v ∧ Rep K cm H (OO O ph) ph d v
  | .nest ds, x => ∃ v, x = some v ∧ Rep K cm H (OO O ph) ph (.lst ds) v
  | .own ds, x => ∃ p vs, x = some (.ref p) ∧ O p ∧ H p = some (.lst vs) ∧ RepL K cm H (OO O ph) ph ds vs
  | .slf, x => ∃ a k dd, x = some (.ref a) ∧ xa = some (a, k, dd)
  | .exc c ns ds, x => ∃ a dd vs, x = some (.ref a) ∧ xa = some (a, c, dd) ∧ ¬ OO O ph dd ∧ H dd = some (.xd (ns.zip vs).reverse) ∧ ns.length = vs.length ∧ RepL K cm H (OO O ph) ph ds vs
structure EnvE (H : Hp) (ph : Option Addr) (ρ : Env) (σ : St) : Prop where
  len : σ.length = ρ.length
  at_ : ∀ (i : Nat) s x, ρ[i]? = some s → σ[i]? = some x → SlotR K cm xa O H ph s x
  tr : OTr H O ph
end
section
variable {K : PySem.W.Frag} {cm : Nat → Addr} {xa : Option (Addr × Nat × Addr)} {O O' : NS} {H H' H1 H2 : Hp} {ph ph' ph1 ph2 : Option Addr} {ρ : Env} {σ : St} {w w' : Wd}
theorem SlotR.keep {s : Slot} {x : Option V} (k : Keep H (OO O ph) H' (OO O' ph')) (m : PhM ph ph') (ho : ∀ ds p, s = .own ds → x = some (.ref p) → O p → O' p ∧ ∀ o, H p = some o → H' p = some o) (h : SlotR K cm xa O H ph s x) : SlotR K cm xa O' H' ph' s x := by
  cases s with
  | none => trivial
  | val d =>
    obtain ⟨v, e, r⟩ := h
    exact ⟨v, e, r.keep k m d v⟩
  | nest ds =>
    obtain ⟨v, e, r⟩ := h
    exact ⟨v, e, r.keep k m _ v⟩
  | own ds =>
    obtain ⟨p, vs, e, o, hp, r⟩ := h
    obtain ⟨o', hk⟩ := ho ds p rfl e o
    exact ⟨p, vs, e, o', hk _ hp, r.keep k m ds vs⟩
  | slf => exact h
  | exc c ns ds =>
    obtain ⟨a, dd, vs, e, hx, n, hd, l, r⟩ := h
    exact ⟨a, dd, vs, e, hx, fun q => n (k.2 _ _ hd q), k.1 _ _ n hd, l, r.keep k m ds vs⟩
theorem EnvE.ext (x : Ext ph H H') (s : PhS H ph ph') (h : EnvE K cm xa O H ph ρ σ) : EnvE K cm xa O H' ph' ρ σ :=
  ⟨h.len, fun i sl v e1 e2 => (h.at_ i sl v e1 e2).keep (Ext.keep x s) s.m fun ds p _ _ o => ⟨o, fun u q => x p u (h.tr p o).1 q⟩, h.tr.ext x s⟩
theorem EnvE.val {i : Nat} {d : D} (h : EnvE K cm xa O H ph ρ σ) (e : ρ[i]? = some (.val d)) : ∃ v, σ[i]? = some (some v) ∧ Rep K cm H (OO O ph) ph d v := by
  have hi : i < σ.length := by rw [h.len]; exact (List.getElem?_eq_some_iff.mp e).1
  obtain ⟨v, e1, r⟩ := h.at_ i _ σ[i] e (List.getElem?_eq_getElem hi)
  exact ⟨v, by rw [List.getElem?_eq_getElem hi, e1], r⟩
theorem EnvE.nestd {i : Nat} {ds : List D} (h : EnvE K cm xa O H ph ρ σ) (e : ρ[i]? = some (.nest ds)) : ∃ v, σ[i]? = some (some v) ∧ Rep K cm H (OO O ph) ph (.lst ds) v := by
  have hi : i < σ.length := by rw [h.len]; exact (List.getElem?_eq_some_iff.mp e).1
  obtain ⟨v, e1, r⟩ := h.at_ i _ σ[i] e (List.getElem?_eq_getElem hi)
  exact ⟨v, by rw [List.getElem?_eq_getElem hi, e1], r⟩
theorem EnvE.ownd {i : Nat} {ds : List D} (h : EnvE K cm xa O H ph ρ σ) (e : ρ[i]? = some (.own ds)) : ∃ p vs, σ[i]? = some (some (.ref p)) ∧ O p ∧ H p = some (.lst vs) ∧ RepL K cm H (OO O ph) ph ds vs := by
  have hi : i < σ.length := by rw [h.len]; exact (List.getElem?_eq_some_iff.mp e).1
  obtain ⟨p, vs, e1, r⟩ := h.at_ i _ σ[i] e (List.getElem?_eq_getElem hi)
  exact ⟨p, vs, by rw [List.getElem?_eq_getElem hi, e1], r⟩
theorem EnvE.excd {i : Nat} {c : Nat} {ns : List Str} {ds : List D} (h : EnvE K cm xa O H ph ρ σ) (e : ρ[i]? = some (.exc c ns ds)) :
    ∃ a dd vs, σ[i]? = some (some (.ref a)) ∧ xa = some (a, c, dd) ∧ H dd = some (.xd (ns.zip vs).reverse) ∧ ns.length = vs.length ∧ RepL K cm H (OO O ph) ph ds vs := by
  have hi : i < σ.length := by rw [h.len]; exact (List.getElem?_eq_some_iff.mp e).1
  obtain ⟨a, dd, vs, e1, r1, _, r⟩ := h.at_ i _ σ[i] e (List.getElem?_eq_getElem hi)
  exact ⟨a, dd, vs, by rw [List.getElem?_eq_getElem hi, e1], r1, r⟩

/-! ### a run -/
variable (K cm xa O) in
def Post1 {α β : Type} (rel : Hp → Option Addr → α → β → Prop) (Wx : WX) (σ : St) (ph : Option Addr) (H : Hp) (Q : β → Hp → Prop) : R α → Prop
  | .ok a w' => ∀ b H' ph', Ext ph H H' → PhS H ph ph' → HandOk K cm H' O ph' w' → rel H' ph' a b → Q b H'
  | .ex c ns xs w' => ∀ dd H' ph' vs, Ext ph H H' → PhS H ph ph' → HandOk K cm H' O ph' w' → H' dd = some (.xd (ns.zip vs).reverse) → ns.length = vs.length → RepL K cm H' (OO O ph') ph' xs vs → Wx (.ref (cm c)) (some dd) σ H'
  | .bad => False
variable (K cm xa O) in
/-- the computation m, begun at (ph, H, w), ends as Q wishes -/
structure Run {α β : Type} (rel : Hp → Option Addr → α → β → Prop) (Wx : WX) (ρ : Env) (σ : St) (ph : Option Addr) (H : Hp) (w : Wd) (m : M α) (Q : β → Hp → Prop) : Prop where
  env : EnvE K cm xa O H ph ρ σ
  hand : HandOk K cm H O ph w
  post : Post1 K cm O rel Wx σ ph H Q (m w)
variable (K cm O) in
abbrev relV : Hp → Option Addr → D → V → Prop := fun H ph d v => Rep K cm H (OO O ph) ph d v
variable (K cm O) in
abbrev relL : Hp → Option Addr → List D → List V → Prop := fun H ph d v => RepL K cm H (OO O ph) ph d v
abbrev relB : Hp → Option Addr → Bool → Bool → Prop := fun _ _ a b => a = b

variable {Wx : WX}
theorem Post1.imp {α β : Type} {rel : Hp → Option Addr → α → β → Prop} {Q Q' : β → Hp → Prop} {r : R α} (hq : ∀ b H1, Q b H1 → Q' b H1) (h : Post1 K cm O rel Wx σ ph H Q r) : Post1 K cm O rel Wx σ ph H Q' r := by
  cases r with
  | ok a w' => exact fun b H' ph' e s k r => hq _ _ (h b H' ph' e s k r)
  | ex c ns xs w' => exact h
  | bad => exact h
theorem Run.imp {α β : Type} {rel : Hp → Option Addr → α → β → Prop} {m : M α} {Q Q' : β → Hp → Prop} (hq : ∀ b H1, Q b H1 → Q' b H1) (h : Run K cm xa O rel Wx ρ σ ph H w m Q) : Run K cm xa O rel Wx ρ σ ph H w m Q' :=
  ⟨h.env, h.hand, h.post.imp hq⟩
theorem Post1.ext {α β : Type} {rel : Hp → Option Addr → α → β → Prop} {Q : β → Hp → Prop} {r : R α} (x : Ext ph H H1) (s : PhS H ph ph1) (h : Post1 K cm O rel Wx σ ph H Q r) : Post1 K cm O rel Wx σ ph1 H1 Q r := by
  cases r with
  | ok a w' => exact fun b H' ph' e t k r => h b H' ph' (x.trans s e) (s.trans x t) k r
  | ex c ns xs w' => exact fun dd H' ph' vs e t => h dd H' ph' vs (x.trans s e) (s.trans x t)
  | bad => exact h
/-- one computation behind another -/
theorem Run.bind {α β γ δ : Type} {rel : Hp → Option Addr → α → β → Prop} {rel2 : Hp → Option Addr → γ → δ → Prop} {m : M α} {k : α → M γ} {Q : δ → Hp → Prop} (h : Run K cm xa O rel2 Wx ρ σ ph H w (M.bind m k) Q) :
    Run K cm xa O rel Wx ρ σ ph H w m (fun b H1 => ∃ a ph1 w1, Ext ph H H1 ∧ PhS H ph ph1 ∧ rel H1 ph1 a b ∧ Run K cm xa O rel2 Wx ρ σ ph1 H1 w1 (k a) Q) := by
  refine ⟨h.env, h.hand, ?_⟩
  have hp := h.post
  unfold M.bind at hp
  cases e : m w with
  | ok a w1 =>
    rw [e] at hp
    exact fun b H1 ph1 x s hk r => ⟨a, ph1, w1, x, s, r, h.env.ext x s, hk, hp.ext x s⟩
  | ex c ns xs w1 => rw [e] at hp; exact hp
  | bad => rw [e] at hp; exact hp
theorem Run.ret {α β : Type} {rel : Hp → Option Addr → α → β → Prop} {a : α} {b : β} {Q : β → Hp → Prop} (h : Run K cm xa O rel Wx ρ σ ph H w (M.ret a) Q) (r : rel H ph a b) : Q b H := h.post b H ph .refl .refl h.hand r
/-- .. behind new objects -/
theorem Run.ret_at {α β : Type} {rel : Hp → Option Addr → α → β → Prop} {a : α} {b : β} {Q : β → Hp → Prop} (h : Run K cm xa O rel Wx ρ σ ph H w (M.ret a) Q) (x : Ext ph H H1) (hk : HandOk K cm H1 O ph w) (r : rel H1 ph a b) : Q b H1 := h.post b H1 ph x .refl hk r
theorem Run.no {α β : Type} {rel : Hp → Option Addr → α → β → Prop} {Q : β → Hp → Prop} {P : Prop} (h : Run K cm xa O rel Wx ρ σ ph H w (M.fail : M α) Q) : P := (show False from h.post).elim
theorem Run.new {p : Addr} (hp : H p = none) {α β : Type} {rel : Hp → Option Addr → α → β → Prop} {m : M α} {Q : β → Hp → Prop} (h : Run K cm xa O rel Wx ρ σ ph H w m Q) : ¬ OO O ph p := fresh_oo h.env.tr h.hand hp
/-- a new tuple, a new list -/
theorem Run.tup {p : Addr} {ds : List D} {vs : List V} {Q : V → Hp → Prop} (h : Run K cm xa O (relV K cm O) Wx ρ σ ph H w (M.ret (.tup ds)) Q) (hp : H p = none) (r : RepL K cm H (OO O ph) ph ds vs) : Q (.ref p) (upd H p (.tup vs)) := by
  refine h.ret_at (ext_new hp) (h.hand.new hp) ?_
  show Rep K cm _ _ _ _ _
  simp only [Rep]
  exact ⟨p, vs, rfl, .inl ⟨h.new hp, .inl upd_same⟩, r.keep (Ext.keep (ext_new hp) .refl) (fun _ e => e) ds vs⟩
theorem Run.lst {p : Addr} {ds : List D} {vs : List V} {Q : V → Hp → Prop} (h : Run K cm xa O (relV K cm O) Wx ρ σ ph H w (M.ret (.lst ds)) Q) (hp : H p = none) (r : RepL K cm H (OO O ph) ph ds vs) : Q (.ref p) (upd H p (.lst vs)) := by
  refine h.ret_at (ext_new hp) (h.hand.new hp) ?_
  show Rep K cm _ _ _ _ _
  simp only [Rep]
  exact ⟨p, vs, rfl, ⟨h.new hp, upd_same⟩, r.keep (Ext.keep (ext_new hp) .refl) (fun _ e => e) ds vs⟩
end

/-! ### the judgements of expressions -/
section
variable (K : PySem.W.Frag) (cm : Nat → Addr) (xa : Option (Addr × Nat × Addr)) (Wx : WX)
def tX (f : EF) : TE := fun σ H Q => ∃ O ρ ph w, Run K cm xa O (relV K cm O) Wx ρ σ ph H w (f ρ) Q
def tTX (f : TF) : TT := fun σ H Q => ∃ O ρ ph w, Run K cm xa O relB Wx ρ σ ph H w (f ρ) Q
def tAX (f : Env → M (List D)) : TA := fun σ H Q => ∃ O ρ ph w, Run K cm xa O (relL K cm O) Wx ρ σ ph H w (f ρ) Q
end
structure Cfg where
  cm : Nat → Addr
  xa : Option (Addr × Nat × Addr)
  Wx : WX
abbrev PX (X : Cx) (c : Cfg) (e : Expr) (f : EF) : Prop := PE X e (tX X.K c.cm c.xa c.Wx f)
abbrev PTX (X : Cx) (c : Cfg) (e : Expr) (f : TF) : Prop := PT X e (tTX X.K c.cm c.xa c.Wx f)
abbrev PAX (X : Cx) (c : Cfg) (es : List Expr) (fs : List EF) : Prop := PA X es (tAX X.K c.cm c.xa c.Wx (evs fs))

theorem PE.to {X : Cx} {e : Expr} {t t' : TE} (h : PE X e t) (m : ∀ σ H Q, t' σ H Q → t σ H Q) : PE X e t' := ⟨fun pins s σ H Q I q => h.run pins s σ H Q I (m σ H Q q)⟩
theorem PT.to {X : Cx} {e : Expr} {t t' : TT} (h : PT X e t) (m : ∀ σ H Q, t' σ H Q → t σ H Q) : PT X e t' := ⟨fun pins s σ H Q I q => h.run pins s σ H Q I (m σ H Q q)⟩
theorem PA.to {X : Cx} {es : List Expr} {t t' : TA} (h : PA X es t) (m : ∀ σ H Q, t' σ H Q → t σ H Q) : PA X es t' := ⟨fun pos pins s σ H Q I q => h.run pos pins s σ H Q I (m σ H Q q)⟩
theorem PS.to {X : Cx} {e : Stmt} {t t' : TS} (h : PS X e t) (m : ∀ D σ H, t' D σ H → t D σ H) : PS X e t' := ⟨fun pins s σ H D I q => h.run pins s σ H D I (m D σ H q)⟩
theorem PSs.to {X : Cx} {e : List Stmt} {t t' : TS} (h : PSs X e t) (m : ∀ D σ H, t' D σ H → t D σ H) : PSs X e t' := ⟨fun pins s σ H D I q => h.run pins s σ H D I (m D σ H q)⟩

section
variable {X : Cx} {c : Cfg} {pos : Pos} {a b e : Expr} {fa fb fe : EF} {es : List Expr} {fs : List EF}
theorem tX.go {f : EF} {σ : St} {H : Hp} {Q : VK} {O : NS} {ρ : Env} {ph : Option Addr} {w : Wd} {Q' : VK} (h : Run X.K c.cm c.xa O (relV X.K c.cm O) c.Wx ρ σ ph H w (f ρ) Q') (m : ∀ v H', Q' v H' → Q v H') : tX X.K c.cm c.xa c.Wx f σ H Q := ⟨O, ρ, ph, w, h.imp m⟩

theorem px_var (i : Nat) {x : Str} (hN : X.N[i]? = some x := by rfl) (hv : L2.Vis X.env.scope x := by first | exact Or.inl rfl | exact Or.inr (Or.inl rfl) | exact Or.inr (Or.inr rfl)) (hd : (x == ("__debug__" : Str)) = false := by decide)
    (hcd : (x == ("__classdict__" : Str)) = false := by decide) : PX X c (.Name x pos) (eVar i) := by
  refine PE.to (L2.pe_var hN hv hd hcd) fun σ H Q ⟨O, ρ, ph, w, h⟩ => ?_
  have hp := h.post
  have he := h.env
  unfold eVar at h
  cases e : ρ[i]? with
  | none => rw [e] at h; exact h.no
  | some s =>
    rw [e] at h
    cases s with
    | val d =>
      obtain ⟨v, e1, r⟩ := he.val e
      exact ⟨v, e1, h.ret r⟩
    | nest ds =>
      obtain ⟨v, e1, r⟩ := he.nestd e
      exact ⟨v, e1, h.ret r⟩
    | _ => exact h.no
theorem px_int {i : Int} {j : Nat} : PX X c (.Constant (.int i) j pos) (eC (.int i)) := PE.to L2.pe_int fun σ H Q ⟨O, ρ, ph, w, h⟩ => show Q (.int i) H from h.ret (b := V.int i) (by simp [Rep])
theorem px_bl {i : Bool} {j : Nat} : PX X c (.Constant (.bool i) j pos) (eC (.bl i)) := PE.to L2.pe_bl fun σ H Q ⟨O, ρ, ph, w, h⟩ => show Q (.bl i) H from h.ret (b := V.bl i) (by simp [Rep])
theorem px_non {j : Nat} : PX X c (.Constant .none j pos) (eC .non) := PE.to L2.pe_non fun σ H Q ⟨O, ρ, ph, w, h⟩ => show Q (.non) H from h.ret (b := V.non) (by simp [Rep])
theorem px_str {i : Str} {j : Nat} : PX X c (.Constant (.str i) j pos) (eC (.str i)) := PE.to L2.pe_str fun σ H Q ⟨O, ρ, ph, w, h⟩ => show Q (.str i) H from h.ret (b := V.str i) (by simp [Rep])

/-! two-place operations -/
def Op2 (K : PySem.W.Frag) (cm : Nat → Addr) (f : D → D → M D) (r : R2) : Prop := ∀ {xa O Wx ρ σ ph H w} {Q : VK} (d1 d2 v1 v2), Rep K cm H (OO O ph) ph d1 v1 → Rep K cm H (OO O ph) ph d2 v2 →
  Run K cm xa O (relV K cm O) Wx ρ σ ph H w (f d1 d2) Q → r v1 v2 H Q
def Op1 (K : PySem.W.Frag) (cm : Nat → Addr) (f : D → M D) (r : V → Hp → VK → Prop) : Prop := ∀ {xa O Wx ρ σ ph H w} {Q : VK} (d1 v1), Rep K cm H (OO O ph) ph d1 v1 → Run K cm xa O (relV K cm O) Wx ρ σ ph H w (f d1) Q → r v1 H Q
def OpL (K : PySem.W.Frag) (cm : Nat → Addr) (f : List D → M D) (r : List V → Hp → VK → Prop) : Prop := ∀ {xa O Wx ρ σ ph H w} {Q : VK} (d1 v1), RepL K cm H (OO O ph) ph d1 v1 → Run K cm xa O (relV K cm O) Wx ρ σ ph H w (f d1) Q → r v1 H Q
theorem bin_to {f : D → D → M D} {r : R2} (hr : Op2 X.K c.cm f r) : ∀ σ H Q, tX X.K c.cm c.xa c.Wx (eBin f fa fb) σ H Q → L2.tOp r (tX X.K c.cm c.xa c.Wx fa) (tX X.K c.cm c.xa c.Wx fb) σ H Q := fun σ H Q ⟨O, ρ, ph, w, h⟩ =>
  ⟨O, ρ, ph, w, h.bind.imp fun x H1 ⟨d, ph1, w1, e1, s1, r1, h1⟩ => ⟨O, ρ, ph1, w1, h1.bind.imp fun y H2 ⟨d2, ph2, w2, e2, s2, r2, h2⟩ => hr d d2 x y (Rep.keep (Ext.keep e2 s2) s2.m d x r1) r2 h2⟩⟩
theorem px_bin {op : Operator} {f : D → D → M D} {r : R2} (ho : OpR X (binaryOp op) r) (hr : Op2 X.K c.cm f r) (ha : PX X c a fa) (hb : PX X c b fb) : PX X c (.BinOp a op b pos) (eBin f fa fb) :=
  PE.to (L2.pe_op ho ha hb) (bin_to hr)
theorem px_cmp {op : CmpOp} {f : D → D → M D} {r : R2} (ho : OpR X (compareOp op) r) (hr : Op2 X.K c.cm f r) (ha : PX X c a fa) (hb : PX X c b fb) (hm : behindInMarks op b = false) : PX X c (.Compare a [op] [b] pos) (eBin f fa fb) :=
  PE.to (L2.pe_cmpR ho ha hb hm) (bin_to hr)
theorem boolOf_rep {K : PySem.W.Frag} {cm : Nat → Addr} {xa O Wx ρ σ ph H w} {Q : Bool → Hp → Prop} {d : D} {v : V} (r : Rep K cm H (OO O ph) ph d v) (h : Run K cm xa O relB Wx ρ σ ph H w (boolOf d) Q) : ∃ k, v = .bl k ∧ Q k H := by
  cases d with
  | bl k => exact ⟨k, by simpa [Rep] using r, h.ret rfl⟩
  | _ => exact h.no
theorem val_to {f : EF} : ∀ σ H Q, tTX X.K c.cm c.xa c.Wx (tVal f) σ H Q → L2.tTest (tX X.K c.cm c.xa c.Wx f) σ H Q := fun σ H Q ⟨O, ρ, ph, w, h⟩ =>
  ⟨O, ρ, ph, w, h.bind.imp fun x H1 ⟨d, ph1, w1, e1, s1, r1, h1⟩ => boolOf_rep r1 h1⟩
theorem ptx_cmp {op : CmpOp} {f : D → D → M D} {r : R2} (ho : OpR X (compareOp op) r) (hr : Op2 X.K c.cm f r) (ha : PX X c a fa) (hb : PX X c b fb) (hm : behindInMarks op b = false) : PTX X c (.Compare a [op] [b] pos) (tVal (eBin f fa fb)) :=
  PT.to (L2.pt_cmpR ho ha hb hm) fun σ H Q q => by
    obtain ⟨O, ρ, ph, w, h⟩ := val_to (f := eBin f fa fb) σ H Q q
    exact bin_to hr σ H _ ⟨O, ρ, ph, w, h⟩
theorem px_un {op : UnaryOp} {f : D → M D} {r : V → Hp → VK → Prop} (ho : L2.UnR X (unaryOp op) r) (hr : Op1 X.K c.cm f r) (ha : PX X c a fa) : PX X c (.UnaryOp op a pos) (eUn f fa) :=
  PE.to (L2.pe_un ho ha) fun σ H Q ⟨O, ρ, ph, w, h⟩ => ⟨O, ρ, ph, w, h.bind.imp fun x H1 ⟨d, ph1, w1, e1, s1, r1, h1⟩ => hr d x r1 h1⟩

/-! argument lists, displays, calls of built-ins -/
theorem pax_nil : PAX X c [] [] := PA.to L2.pa_nil fun σ H Q ⟨O, ρ, ph, w, h⟩ => h.ret (b := []) RepL.nil
theorem pax_cons (ha : PX X c e fe) (hr : PAX X c es fs) (hs : starEach (e :: es) X.env = (false, eval e X.env) :: starEach es X.env := by rfl) : PAX X c (e :: es) (fe :: fs) :=
  PA.to (L2.pa_cons ha hr hs) fun σ H Q ⟨O, ρ, ph, w, h⟩ => ⟨O, ρ, ph, w, h.bind.imp fun x H1 ⟨d, ph1, w1, e1, s1, r1, h1⟩ =>
    ⟨O, ρ, ph1, w1, h1.bind.imp fun xs H2 ⟨ds, ph2, w2, e2, s2, r2, h2⟩ => h2.ret (RepL.cons (Rep.keep (Ext.keep e2 s2) s2.m d x r1) r2)⟩⟩
theorem evs_len {ρ : Env} : ∀ (fs : List EF) (w : Wd) (ds : List D) (w' : Wd), evs fs ρ w = .ok ds w' → ds.length = fs.length := by
  intro fs
  induction fs with
  | nil => intro w ds w' e; injection e with e _; rw [← e]; rfl
  | cons f fs ih =>
    intro w ds w' e
    unfold evs M.bind at e
    cases e1 : f ρ w with
    | ok d w1 =>
      rw [e1] at e
      simp only [M.bind] at e
      cases e2 : evs fs ρ w1 with
      | ok ds2 w2 =>
        rw [e2] at e
        injection e with e _
        rw [← e, List.length_cons, ih _ _ _ e2]; rfl
      | ex => rw [e2] at e; cases e
      | bad => rw [e2] at e; cases e
    | ex => rw [e1] at e; cases e
    | bad => rw [e1] at e; cases e
/-- the run of an argument list, its length known -/
theorem evs_run {K : PySem.W.Frag} {cm : Nat → Addr} {xa O Wx ρ σ ph H w} {k : List D → M D} {Q : VK} (h : Run K cm xa O (relV K cm O) Wx ρ σ ph H w (M.bind (evs fs ρ) k) Q) :
    Run K cm xa O (relL K cm O) Wx ρ σ ph H w (evs fs ρ) (fun vs H1 => ∃ ds ph1 w1, vs.length = fs.length ∧ RepL K cm H1 (OO O ph1) ph1 ds vs ∧ Run K cm xa O (relV K cm O) Wx ρ σ ph1 H1 w1 (k ds) Q) := by
  have hb := h.bind (rel := relL K cm O)
  refine ⟨hb.env, hb.hand, ?_⟩
  have hp := hb.post
  cases e : evs fs ρ w with
  | ok ds w1 =>
    rw [e] at hp
    intro xs H1 ph1 x1 s1 k1 r1
    have hp2 := h.post
    unfold M.bind at hp2
    rw [e] at hp2
    exact ⟨ds, ph1, w1, r1.length.symm.trans (evs_len _ _ _ _ e), r1, h.env.ext x1 s1, k1, hp2.ext x1 s1⟩
  | ex => rw [e] at hp; exact hp
  | bad => rw [e] at hp; exact hp
theorem px_tup {k : Nat} (h : PAX X c es fs) (hl : fs.length ≤ 1000 := by decide) : PX X c (.Tuple es k pos) (eTup fs) :=
  PE.to (L2.pe_tup h) fun σ H Q ⟨O, ρ, ph, w, h⟩ => ⟨O, ρ, ph, w, (evs_run h).imp fun vs H1 ⟨ds, ph1, w1, l, r, h1⟩ => ⟨by rw [sizeLine_eq]; omega, fun p hp => h1.tup hp r⟩⟩
theorem px_lst (h : PAX X c es fs) (hl : fs.length ≤ 1000 := by decide) : PX X c (.List es pos) (eLst fs) :=
  PE.to (L2.pe_lst h) fun σ H Q ⟨O, ρ, ph, w, h⟩ => ⟨O, ρ, ph, w, (evs_run h).imp fun vs H1 ⟨ds, ph1, w1, l, r, h1⟩ => ⟨by rw [sizeLine_eq]; omega, fun p hp => h1.lst hp r⟩⟩
/-- a new hand -/
theorem px_hand (h : PAX X c es fs) (hl : fs.length ≤ 1000 := by decide) : PX X c (.List es pos) (eHand fs) :=
  PE.to (L2.pe_lst h) fun σ H Q ⟨O, ρ, ph, w, h⟩ => ⟨O, ρ, ph, w, (evs_run h).imp fun vs H1 ⟨ds, ph1, w1, l, r, h1⟩ => ⟨by rw [sizeLine_eq]; omega, fun p hp => by
    have ha := h1.hand
    have pp := h1.post
    cases w1 with
    | some hs => exact (show False from pp).elim
    | none =>
      cases ph1 with
      | some q => exact ha.elim
      | none =>
        have s : PhS H1 none (some p) := .inr ⟨rfl, p, rfl, hp⟩
        refine pp (.ref p) (upd H1 p (.lst vs)) (some p) (ext_new hp) s ?_ ?_
        · exact ⟨vs, upd_same, r.keep (Ext.keep (ext_new hp) s) s.m ds vs⟩
        · show Rep X.K c.cm _ _ _ _ _
          simp only [Rep]
          exact ⟨p, rfl, rfl⟩⟩⟩
theorem px_callB {x : Str} {p : Pos} {id : String} {r : List V → Hp → VK → Prop} {f : List D → M D} (hc : CallR X (.builtin id) r) (hr : OpL X.K c.cm f r) (hg : L2.Gl X x) (hm : X.mg x = none) (hv : bootBuiltins x = some (.builtin id)) (ha : PAX X c (e :: es) fs)
    (hn : x ≠ "__name__" := by decide) (hdb : (x == ("__debug__" : Str)) = false := by decide) (he : starEach (e :: es) X.env = (false, eval e X.env) :: starEach es X.env := by rfl) (hpl : (backTo pos (starEach es X.env)).any (·.1) = false := by rfl) :
    PX X c (.Call (.Name x p) (e :: es) [] pos) (eCall f fs) :=
  PE.to (L2.pe_callB hc hg hm hv ha hn hdb he hpl) fun σ H Q ⟨O, ρ, ph, w, h⟩ => ⟨O, ρ, ph, w, (evs_run h).imp fun vs H1 ⟨ds, ph1, w1, l, r, h1⟩ => hr ds vs r h1⟩
theorem px_callTy {x : Str} {p : Pos} {T : String} {r : List V → Hp → VK → Prop} {f : List D → M D} (hc : CallR X (.type T) r) (hr : OpL X.K c.cm f r) (hg : L2.Gl X x) (hm : X.mg x = none) (hv : bootBuiltins x = some (.type T)) (ha : PAX X c (e :: es) fs)
    (hn : x ≠ "__name__" := by decide) (hdb : (x == ("__debug__" : Str)) = false := by decide) (he : starEach (e :: es) X.env = (false, eval e X.env) :: starEach es X.env := by rfl) (hpl : (backTo pos (starEach es X.env)).any (·.1) = false := by rfl) :
    PX X c (.Call (.Name x p) (e :: es) [] pos) (eCall f fs) :=
  PE.to (L2.pe_callTy hc hg hm hv ha hn hdb he hpl) fun σ H Q ⟨O, ρ, ph, w, h⟩ => ⟨O, ρ, ph, w, (evs_run h).imp fun vs H1 ⟨ds, ph1, w1, l, r, h1⟩ => hr ds vs r h1⟩
theorem px_callF {x : Str} {p : Pos} {id : String} {r : List V → Hp → VK → Prop} {f : List D → M D} (hc : CallR X (.builtin id) r) (hr : OpL X.K c.cm f r) (hg : L2.Gl X x) (hm : X.mg x = some (.builtin id)) (ha : PAX X c (e :: es) fs)
    (hdb : (x == ("__debug__" : Str)) = false := by decide) (he : starEach (e :: es) X.env = (false, eval e X.env) :: starEach es X.env := by rfl) (hpl : (backTo pos (starEach es X.env)).any (·.1) = false := by rfl) :
    PX X c (.Call (.Name x p) (e :: es) [] pos) (eCall f fs) :=
  PE.to (L2.pe_callBfun hc hg hm ha hdb he hpl) fun σ H Q ⟨O, ρ, ph, w, h⟩ => ⟨O, ρ, ph, w, (evs_run h).imp fun vs H1 ⟨ds, ph1, w1, l, r, h1⟩ => hr ds vs r h1⟩

/-! tests, and, or, not, if, chains -/
variable {ta tb : TF}
theorem cond_run {K : PySem.W.Frag} {cm : Nat → Addr} {xa O Wx ρ σ ph H w} {α β : Type} {rel : Hp → Option Addr → α → β → Prop} {k : Bool → M α} {Q : β → Hp → Prop} (h : Run K cm xa O rel Wx ρ σ ph H w (M.bind (ta ρ) k) Q) :
    Run K cm xa O relB Wx ρ σ ph H w (ta ρ) (fun b H1 => ∃ ph1 w1, Run K cm xa O rel Wx ρ σ ph1 H1 w1 (k b) Q) :=
  (h.bind (rel := relB)).imp fun b H1 ⟨d, ph1, w1, _, _, r1, h1⟩ => ⟨ph1, w1, by cases r1; exact h1⟩
theorem ptx_val (h : PX X c e fe) (he : ∀ whole, isTrue e X.env whole = (do let v ← whole; standAt e.pos; holding [v] (truthy v)) := by intro _; rfl) : PTX X c e (tVal fe) :=
  PT.to (L2.pt_val h he) val_to
theorem truth_rep {K : PySem.W.Frag} {cm : Nat → Addr} {xa O Wx ρ σ ph H w} {Q : Bool → Hp → Prop} {d : D} {v : V} (r : Rep K cm H (OO O ph) ph d v) (h : Run K cm xa O relB Wx ρ σ ph H w (truth d) Q) : ∃ k, L2.TruV K v H k ∧ Q k H := by
  cases d with
  | non => simp only [Rep] at r; subst r; exact ⟨false, rfl, h.ret rfl⟩
  | bl k => simp only [Rep] at r; subst r; exact ⟨k, rfl, h.ret rfl⟩
  | int i => simp only [Rep] at r; subst r; exact ⟨_, rfl, h.ret rfl⟩
  | str x =>
    simp only [Rep] at r; subst r
    by_cases hl : x.length ≤ line
    · simp only [truth, if_pos hl] at h
      exact ⟨_, ⟨by rw [sizeLine_eq]; exact hl, rfl⟩, h.ret rfl⟩
    · simp only [truth, if_neg hl] at h; exact h.no
  | tup ds =>
    simp only [Rep] at r
    obtain ⟨a, vs, rfl, t, rl⟩ := r
    refine ⟨!vs.isEmpty, .inr (.inl ⟨vs, t.seq, rfl⟩), h.ret ?_⟩
    have := rl.length
    cases ds <;> cases vs <;> simp_all
  | lst ds =>
    simp only [Rep] at r
    obtain ⟨a, vs, rfl, t, rl⟩ := r
    refine ⟨!vs.isEmpty, .inl ⟨vs, .inl (.inl t.2), rfl⟩, h.ret ?_⟩
    have := rl.length
    cases ds <;> cases vs <;> simp_all
  | frz ds =>
    simp only [Rep] at r
    obtain ⟨a, vs, rfl, t, rl⟩ := r
    refine ⟨!vs.isEmpty, .inl ⟨vs, t.seq, rfl⟩, h.ret ?_⟩
    have := rl.length
    cases ds <;> cases vs <;> simp_all
  | _ => exact h.no
theorem ptx_tru (h : PX X c e fe) (he : ∀ whole, isTrue e X.env whole = (do let v ← whole; standAt e.pos; holding [v] (truthy v)) := by intro _; rfl) : PTX X c e (tTru fe) :=
  PT.to (L2.pt_truth h he) fun σ H Q ⟨O, ρ, ph, w, h⟩ => ⟨O, ρ, ph, w, h.bind.imp fun x H1 ⟨d, ph1, w1, e1, s1, r1, h1⟩ => truth_rep r1 h1⟩
/-- a test whatever its whole is -/
abbrev PWX (X : Cx) (c : Cfg) (e : Expr) (f : TF) : Prop := L2.PW X e (tTX X.K c.cm c.xa c.Wx f)
theorem PW.to {e : Expr} {t t' : TT} (h : L2.PW X e t) (m : ∀ σ H Q, t' σ H Q → t σ H Q) : L2.PW X e t' := ⟨fun wh pins s σ H Q I q => h.run wh pins s σ H Q I (m σ H Q q)⟩
theorem pwx_and1 (ha : PTX X c a ta) : PWX X c (.BoolOp .And [a] pos) ta := L2.pw_and1 ha
theorem pwx_or1 (ha : PTX X c a ta) : PWX X c (.BoolOp .Or [a] pos) ta := L2.pw_or1 ha
theorem pwx_and {rest : List Expr} (ha : PTX X c a ta) (hb : PWX X c (.BoolOp .And (b :: rest) pos) tb) : PWX X c (.BoolOp .And (a :: b :: rest) pos) (tAnd ta tb) :=
  PW.to (L2.pw_and ha hb) fun σ H Q ⟨O, ρ, ph, w, h⟩ => ⟨O, ρ, ph, w, (cond_run h).imp fun k H1 ⟨ph1, w1, h1⟩ => by
    cases k with
    | true => exact ⟨O, ρ, ph1, w1, h1⟩
    | false => exact h1.ret rfl⟩
theorem pwx_or {rest : List Expr} (ha : PTX X c a ta) (hb : PWX X c (.BoolOp .Or (b :: rest) pos) tb) : PWX X c (.BoolOp .Or (a :: b :: rest) pos) (tOr ta tb) :=
  PW.to (L2.pw_or ha hb) fun σ H Q ⟨O, ρ, ph, w, h⟩ => ⟨O, ρ, ph, w, (cond_run h).imp fun k H1 ⟨ph1, w1, h1⟩ => by
    cases k with
    | false => exact ⟨O, ρ, ph1, w1, h1⟩
    | true => exact h1.ret rfl⟩
theorem PWX.pt (h : PWX X c e ta) : PTX X c e ta := L2.PW.pt h
theorem ptx_not (ha : PTX X c a ta) : PTX X c (.UnaryOp .Not a pos) (tNot ta) :=
  PT.to (L2.pt_not ha) fun σ H Q ⟨O, ρ, ph, w, h⟩ => ⟨O, ρ, ph, w, (cond_run h).imp fun k H1 ⟨ph1, w1, h1⟩ => h1.ret rfl⟩
theorem px_one {op : BoolOp} (h : PX X c a fa) : PX X c (.BoolOp op [a] pos) fa := L2.pe_one h
theorem bool_run {K : PySem.W.Frag} {cm : Nat → Addr} {xa O Wx ρ σ ph H w} {α β : Type} {rel : Hp → Option Addr → α → β → Prop} {d : D} {v : V} {k : Bool → M α} {Q : β → Hp → Prop} (r : Rep K cm H (OO O ph) ph d v)
    (h : Run K cm xa O rel Wx ρ σ ph H w (M.bind (boolOf d) k) Q) : ∃ b, v = .bl b ∧ Run K cm xa O rel Wx ρ σ ph H w (k b) Q := by
  cases d with
  | bl b => exact ⟨b, by simpa [Rep] using r, h⟩
  | _ => exact h.no
theorem px_and {rest : List Expr} (ha : PX X c a fa) (hb : PX X c (.BoolOp .And (b :: rest) pos) fb) : PX X c (.BoolOp .And (a :: b :: rest) pos) (eAnd fa fb) :=
  PE.to (L2.pe_and ha hb) fun σ H Q ⟨O, ρ, ph, w, h⟩ => ⟨O, ρ, ph, w, h.bind.imp fun x H1 ⟨d, ph1, w1, e1, s1, r1, h1⟩ => by
    obtain ⟨k, rfl, h2⟩ := bool_run r1 h1
    refine ⟨k, rfl, ?_⟩
    cases k with
    | true => exact ⟨O, ρ, ph1, w1, h2⟩
    | false => exact h2.ret (b := .bl false) (by simp [Rep])⟩
theorem px_or {rest : List Expr} (ha : PX X c a fa) (hb : PX X c (.BoolOp .Or (b :: rest) pos) fb) : PX X c (.BoolOp .Or (a :: b :: rest) pos) (eOr fa fb) :=
  PE.to (L2.pe_or ha hb) fun σ H Q ⟨O, ρ, ph, w, h⟩ => ⟨O, ρ, ph, w, h.bind.imp fun x H1 ⟨d, ph1, w1, e1, s1, r1, h1⟩ => by
    obtain ⟨k, rfl, h2⟩ := bool_run r1 h1
    refine ⟨k, rfl, ?_⟩
    cases k with
    | false => exact ⟨O, ρ, ph1, w1, h2⟩
    | true => exact h2.ret (b := .bl true) (by simp [Rep])⟩
theorem px_if {t : Expr} (ht : PTX X c t ta) (ha : PX X c a fa) (hb : PX X c b fb) : PX X c (.IfExp t a b pos) (eIf ta fa fb) :=
  PE.to (L2.pe_ifExp ht ha hb) fun σ H Q ⟨O, ρ, ph, w, h⟩ => ⟨O, ρ, ph, w, (cond_run h).imp fun k H1 ⟨ph1, w1, h1⟩ => by
    cases k with
    | true => exact ⟨O, ρ, ph1, w1, h1⟩
    | false => exact ⟨O, ρ, ph1, w1, h1⟩⟩
/-- not x as a value, by truth -/
theorem px_not (ha : PX X c a fa) : PX X c (.UnaryOp .Not a pos) (eNot (tTru fa)) :=
  PE.to (L2.pe_notT ha) fun σ H Q ⟨O, ρ, ph, w, h⟩ => by
    have h' : Run X.K c.cm c.xa O (relV X.K c.cm O) c.Wx ρ σ ph H w (M.bind (fa ρ) fun d => M.bind (truth d) fun k => M.ret (.bl (!k))) Q := by
      have e : eNot (tTru fa) ρ = M.bind (fa ρ) fun d => M.bind (truth d) fun k => M.ret (.bl (!k)) := by unfold eNot tTru; rw [bind_bind]
      rw [← e]; exact h
    refine ⟨O, ρ, ph, w, h'.bind.imp fun x H1 ⟨d, ph1, w1, e1, s1, r1, h1⟩ => ?_⟩
    obtain ⟨k, ht, ph2, w2, h2⟩ := truth_rep r1 (cond_run (ta := fun _ => truth d) h1)
    exact ⟨k, ht, h2.ret (b := .bl (!k)) (by simp [Rep])⟩
theorem px_chain {op op' : CmpOp} {f g : D → D → M D} {r r' : R2} {e3 : Expr} {f3 : EF} (ho : OpR X (compareOp op) r) (hr : Op2 X.K c.cm f r) (ho' : OpR X (compareOp op') r') (hr' : Op2 X.K c.cm g r') (ha : PX X c a fa) (hb : PX X c b fb) (hc : PX X c e3 f3)
    (hm : lastMarks [op, op'] [b, e3] = false := by with_unfolding_all rfl) : PX X c (.Compare a [op, op'] [b, e3] pos) (eChain f g fa fb f3) :=
  PE.to (L2.pe_chain ho ho' ha hb hc hm) fun σ H Q ⟨O, ρ, ph, w, h⟩ => ⟨O, ρ, ph, w, h.bind.imp fun x H1 ⟨d, ph1, w1, e1, s1, r1, h1⟩ => ⟨O, ρ, ph1, w1, h1.bind.imp fun y H2 ⟨d2, ph2, w2, e2, s2, r2, h2⟩ => by
    refine hr d d2 x y (Rep.keep (Ext.keep e2 s2) s2.m d x r1) r2 (h2.bind.imp fun z H3 ⟨dz, ph3, w3, e3, s3, r3, h3⟩ => ?_)
    obtain ⟨k, rfl, h4⟩ := bool_run r3 h3
    refine ⟨k, rfl, ?_⟩
    cases k with
    | false => exact h4.ret (b := .bl false) (by simp [Rep])
    | true => exact ⟨O, ρ, ph3, w3, (Run.bind h4).imp fun z' H4 ⟨d4, ph4, w4, e4, s4, r4, h5⟩ => hr' d2 d4 y z' (Rep.keep (Ext.keep e4 s4) s4.m d2 y (Rep.keep (Ext.keep e3 s3) s3.m d2 y r2)) r4 h5⟩⟩⟩
theorem ptx_chain {op op' : CmpOp} {f g : D → D → M D} {r r' : R2} {e3 : Expr} {f3 : EF} (ho : OpR X (compareOp op) r) (hr : Op2 X.K c.cm f r) (ho' : OpR X (compareOp op') r') (hr' : Op2 X.K c.cm g r') (ha : PX X c a fa) (hb : PX X c b fb) (hc : PX X c e3 f3)
    (hm : lastMarks [op, op'] [b, e3] = false := by with_unfolding_all rfl) : PTX X c (.Compare a [op, op'] [b, e3] pos) (tVal (eChain f g fa fb f3)) :=
  PT.to (L2.pt_chain ho ho' ha hb hc hm) fun σ H Q q => by
    obtain ⟨O, ρ, ph, w, h⟩ := val_to (f := eChain f g fa fb f3) σ H Q q
    exact ⟨O, ρ, ph, w, h.bind.imp fun x H1 ⟨d, ph1, w1, e1, s1, r1, h1⟩ => ⟨O, ρ, ph1, w1, h1.bind.imp fun y H2 ⟨d2, ph2, w2, e2, s2, r2, h2⟩ => by
      refine hr d d2 x y (Rep.keep (Ext.keep e2 s2) s2.m d x r1) r2 (h2.bind.imp fun z H3 ⟨dz, ph3, w3, e3, s3, r3, h3⟩ => ?_)
      obtain ⟨k, rfl, h4⟩ := bool_run r3 h3
      refine ⟨k, rfl, ?_⟩
      cases k with
      | false => exact h4.ret (b := .bl false) (by simp [Rep])
      | true => exact ⟨O, ρ, ph3, w3, (Run.bind h4).imp fun z' H4 ⟨d4, ph4, w4, e4, s4, r4, h5⟩ => hr' d2 d4 y z' (Rep.keep (Ext.keep e4 s4) s4.m d2 y (Rep.keep (Ext.keep e3 s3) s3.m d2 y r2)) r4 h5⟩⟩⟩

/-! ### the operations -/
variable {K : PySem.W.Frag} {cm : Nat → Addr}
theorem int_of {H : Hp} {N : NS} {ph : Option Addr} {i : Int} {v : V} (r : Rep K cm H N ph (.int i) v) : v = .int i := by simpa only [Rep] using r
theorem bl_of {H : Hp} {N : NS} {ph : Option Addr} {i : Bool} {v : V} (r : Rep K cm H N ph (.bl i) v) : v = .bl i := by simpa only [Rep] using r
theorem str_of {H : Hp} {N : NS} {ph : Option Addr} {i : Str} {v : V} (r : Rep K cm H N ph (.str i) v) : v = .str i := by simpa only [Rep] using r
theorem non_of {H : Hp} {N : NS} {ph : Option Addr} {v : V} (r : Rep K cm H N ph .non v) : v = .non := by simpa only [Rep] using r
theorem tup_of {H : Hp} {N : NS} {ph : Option Addr} {ds : List D} {v : V} (r : Rep K cm H N ph (.tup ds) v) : ∃ a vs, v = .ref a ∧ TN K H N a vs ∧ RepL K cm H N ph ds vs := by simpa only [Rep] using r
theorem lst_of {H : Hp} {N : NS} {ph : Option Addr} {ds : List D} {v : V} (r : Rep K cm H N ph (.lst ds) v) : ∃ a vs, v = .ref a ∧ (¬ N a ∧ H a = some (.lst vs)) ∧ RepL K cm H N ph ds vs := by simpa only [Rep] using r
theorem frz_of {H : Hp} {N : NS} {ph : Option Addr} {ds : List D} {v : V} (r : Rep K cm H N ph (.frz ds) v) : ∃ a vs, v = .ref a ∧ LN K H N a vs ∧ RepL K cm H N ph ds vs := by simpa only [Rep] using r
/-- an operation on two ints -/
theorem op2_int {f : D → D → M D} {C : Int → Int → Prop} [∀ i j, Decidable (C i j)] {g : Int → Int → D} {gv : Int → Int → V} (hg : ∀ i j {H N ph}, Rep K cm H N ph (g i j) (gv i j))
    (h1 : ∀ i j, f (.int i) (.int j) = if C i j then M.ret (g i j) else M.fail) (h2 : ∀ a b, (∀ i j, ¬ (a = .int i ∧ b = .int j)) → f a b = M.fail) : Op2 K cm f (L2.rI C gv) := by
  intro xa O Wx ρ σ ph H w Q d1 d2 v1 v2 r1 r2 h
  by_cases hh : ∃ i j, d1 = .int i ∧ d2 = .int j
  · obtain ⟨i, j, rfl, rfl⟩ := hh
    rw [h1] at h
    by_cases hc : C i j
    · rw [if_pos hc] at h
      exact ⟨i, j, int_of r1, int_of r2, hc, h.ret (hg i j)⟩
    · rw [if_neg hc] at h; exact h.no
  · rw [h2 d1 d2 fun i j e => hh ⟨i, j, e⟩] at h; exact h.no
theorem op2_int0 {f : D → D → M D} {g : Int → Int → D} {gv : Int → Int → V} (hg : ∀ i j {H N ph}, Rep K cm H N ph (g i j) (gv i j))
    (h1 : ∀ i j, f (.int i) (.int j) = M.ret (g i j)) (h2 : ∀ a b, (∀ i j, ¬ (a = .int i ∧ b = .int j)) → f a b = M.fail) : Op2 K cm f (L2.rI0 gv) := by
  intro xa O Wx ρ σ ph H w Q d1 d2 v1 v2 r1 r2 h
  by_cases hh : ∃ i j, d1 = .int i ∧ d2 = .int j
  · obtain ⟨i, j, rfl, rfl⟩ := hh
    rw [h1] at h
    exact ⟨i, j, int_of r1, int_of r2, h.ret (hg i j)⟩
  · rw [h2 d1 d2 fun i j e => hh ⟨i, j, e⟩] at h; exact h.no
end
end FL

/-! F4: the operations: what HandS's rules ask, from pure data. -/
namespace FL
open PySem
open L2 (V Hp HO Cx Inv VK TE TT TA TS TI TG PE PT PA PS PSs PI PG Ends XK WX RelV Vals Rd upd upd_same upd_ne ne_of_none EP TP AP OpR R2 CallR FnOk Room Binds)
section
variable {K : PySem.W.Frag} {cm : Nat → Addr} {X : Cx}
theorem sub_ok : Op2 K cm subD (L2.rI0 fun i j => .int (i - j)) := op2_int0 (g := fun i j => .int (i - j)) (fun i j => by simp [Rep]) (fun _ _ => rfl) (fun a b h => by cases a <;> cases b <;> first | rfl | exact absurd ⟨rfl, rfl⟩ (h _ _))
theorem mul_ok : Op2 K cm mulD (L2.rI L2.CMulW fun i j => .int (i * j)) := by
  intro xa O Wx ρ σ ph H w Q d1 d2 v1 v2 r1 r2 h
  cases d1 <;> cases d2 <;> try exact h.no
  rename_i i j
  by_cases hc : i.natAbs.log2 + j.natAbs.log2 < 1000000
  · simp only [mulD, if_pos hc] at h
    exact ⟨i, j, int_of r1, int_of r2, hc, h.ret (b := .int (i * j)) (by simp [Rep])⟩
  · simp only [mulD, if_neg hc] at h; exact h.no
/-- // by any divisor but 0 below 2 ^ 9000 -/
def CDivZ (i j : Int) : Prop := j ≠ 0 ∧ j.natAbs.log2 < 9000
theorem op_fdivZ : OpR X (binaryOp .FloorDiv) (L2.rI CDivZ fun i j => .int (i.fdiv j)) := L2.opI fun i j _ _ _ _ _ hc q => PyProof.Rows.floordiv_int hc.1 q (.inl (PyProof.noPylong_of_log2 hc.2))
theorem fdiv_ok : Op2 K cm fdivD (L2.rI CDivZ fun i j => .int (i.fdiv j)) := by
  intro xa O Wx ρ σ ph H w Q d1 d2 v1 v2 r1 r2 h
  cases d1 <;> cases d2 <;> try exact h.no
  rename_i i j
  by_cases hc : j ≠ 0 ∧ j.natAbs.log2 < 9000
  · simp only [fdivD, if_pos hc] at h
    exact ⟨i, j, int_of r1, int_of r2, hc, h.ret (b := .int (i.fdiv j)) (by simp [Rep])⟩
  · simp only [fdivD, if_neg hc] at h; exact h.no
theorem mod_ok : Op2 K cm modD (L2.rI (fun _ j => j ≠ 0) fun i j => .int (i.fmod j)) := by
  intro xa O Wx ρ σ ph H w Q d1 d2 v1 v2 r1 r2 h
  cases d1 <;> cases d2 <;> try exact h.no
  rename_i i j
  by_cases hc : j ≠ 0
  · simp only [modD, if_pos hc] at h
    exact ⟨i, j, int_of r1, int_of r2, hc, h.ret (b := .int (i.fmod j)) (by simp [Rep])⟩
  · simp only [modD, if_neg hc] at h; exact h.no
theorem pow_ok : Op2 K cm powD (L2.rI L2.CPow fun i j => .int (i ^ j.toNat)) := by
  intro xa O Wx ρ σ ph H w Q d1 d2 v1 v2 r1 r2 h
  cases d1 <;> cases d2 <;> try exact h.no
  rename_i i j
  by_cases hc : 0 ≤ j ∧ j ≤ 1000000 ∧ i.natAbs < 2 ^ 64
  · simp only [powD, if_pos hc] at h
    exact ⟨i, j, int_of r1, int_of r2, hc, h.ret (b := .int (i ^ j.toNat)) (by simp [Rep])⟩
  · simp only [powD, if_neg hc] at h; exact h.no
theorem lt_ok : Op2 K cm ltD (L2.rI0 fun i j => .bl (decide (i < j))) := op2_int0 (g := fun i j => .bl (decide (i < j))) (fun i j => by simp [Rep]) (fun _ _ => rfl) (fun a b h => by cases a <;> cases b <;> first | rfl | exact absurd ⟨rfl, rfl⟩ (h _ _))
theorem le_ok : Op2 K cm leD (L2.rI0 fun i j => .bl (decide (i ≤ j))) := op2_int0 (g := fun i j => .bl (decide (i ≤ j))) (fun i j => by simp [Rep]) (fun _ _ => rfl) (fun a b h => by cases a <;> cases b <;> first | rfl | exact absurd ⟨rfl, rfl⟩ (h _ _))
theorem gt_ok : Op2 K cm gtD (L2.rI0 fun i j => .bl (decide (j < i))) := op2_int0 (g := fun i j => .bl (decide (j < i))) (fun i j => by simp [Rep]) (fun _ _ => rfl) (fun a b h => by cases a <;> cases b <;> first | rfl | exact absurd ⟨rfl, rfl⟩ (h _ _))
theorem ge_ok : Op2 K cm geD (L2.rI0 fun i j => .bl (decide (j ≤ i))) := op2_int0 (g := fun i j => .bl (decide (j ≤ i))) (fun i j => by simp [Rep]) (fun _ _ => rfl) (fun a b h => by cases a <;> cases b <;> first | rfl | exact absurd ⟨rfl, rfl⟩ (h _ _))
theorem neg_ok : Op1 K cm negD (L2.rU fun i => .int (-i)) := by
  intro xa O Wx ρ σ ph H w Q d v r h
  cases d <;> try exact h.no
  rename_i i
  exact ⟨i, int_of r, h.ret (b := .int (-i)) (by simp [Rep])⟩
/-! + -/
def rAddS : R2 := fun x y H Q => ∃ i j, x = .str i ∧ y = .str j ∧ i.length + j.length ≤ sizeLine ∧ Q (.str (i ++ j)) H
def rAddI : R2 := fun x y H Q => ∃ i j, x = .int i ∧ y = .int j ∧ Q (.int (i + j)) H
def rAddA (K : PySem.W.Frag) : R2 := fun x y H Q => rAddI x y H Q ∨ rAddS x y H Q ∨ L2.rCat x y H Q ∨ L2.rCatT K x y H Q
theorem op_addA : OpR X (binaryOp .Add) (rAddA X.K) := L2.OpR.or L2.op_add (L2.OpR.or L2.op_add_str (L2.OpR.or L2.op_cat L2.op_catT))
theorem add_ok : Op2 K cm addD (rAddA K) := by
  intro xa O Wx ρ σ ph H w Q d1 d2 v1 v2 r1 r2 h
  cases d1 <;> cases d2 <;> try exact h.no
  · rename_i i j
    exact .inl ⟨i, j, int_of r1, int_of r2, h.ret (b := .int (i + j)) (by simp [Rep])⟩
  · rename_i i j
    by_cases hc : i.length + j.length ≤ line
    · simp only [addD, if_pos hc] at h
      exact .inr (.inl ⟨i, j, str_of r1, str_of r2, by rw [sizeLine_eq]; exact hc, h.ret (b := .str (i ++ j)) (by simp [Rep])⟩)
    · simp only [addD, if_neg hc] at h; exact h.no
  · rename_i xs ys
    obtain ⟨a, vs, rfl, ha, ra⟩ := tup_of r1
    obtain ⟨b, ws, rfl, hb, rb⟩ := tup_of r2
    by_cases hc : xs ≠ [] ∧ xs.length + ys.length ≤ line
    · simp only [addD, if_pos hc] at h
      have la := ra.length
      have lb := rb.length
      refine .inr (.inr (.inr ⟨a, b, vs, ws, rfl, rfl, ha.seq, hb.seq, fun e => hc.1 ?_, ?_, fun e => ?_, fun _ p hp => h.tup hp (ra.append rb)⟩))
      · subst e; cases xs with
        | nil => rfl
        | cons => simp at la
      · have := hc.2; rw [sizeLine_eq]; unfold line at this; omega
      · subst e
        have e0 : ys = [] := by cases ys with
          | nil => rfl
          | cons => simp at lb
        subst e0
        refine h.ret (b := .ref a) ?_
        show Rep K cm _ _ _ _ _
        rw [List.append_nil]
        exact r1
    · simp only [addD, if_neg hc] at h; exact h.no
  · rename_i xs ys
    obtain ⟨a, vs, rfl, ⟨na, ha⟩, ra⟩ := lst_of r1
    obtain ⟨b, ws, rfl, ⟨nb, hb⟩, rb⟩ := lst_of r2
    by_cases hc : xs.length + ys.length ≤ line
    · simp only [addD, if_pos hc] at h
      have la := ra.length
      have lb := rb.length
      exact .inr (.inr (.inl ⟨a, b, vs, ws, rfl, rfl, ha, hb, by rw [sizeLine_eq, ← la, ← lb]; exact hc, fun p hp => h.lst hp (ra.append rb)⟩))
    · simp only [addD, if_neg hc] at h; exact h.no

/-! ==, != -/
mutual
def D.py : D → PyData
  | .non => .none
  | .bl b => .bool b
  | .int i => .int i
  | .str x => .str x
  | .tup xs => .tuple (D.pyL xs)
  | .lst xs => .list (D.pyL xs)
  | .frz _ | .ins _ _ _ | .hand => .none
def D.pyL : List D → List PyData
  | [] => []
  | x :: xs => D.py x :: D.pyL xs
end
mutual
theorem dp_of {H : Hp} {N : NS} {ph : Option Addr} : ∀ (n : Nat) (d : D) (v : V), D.flat n d = true → Rep K cm H N ph d v → L2.Dp K H v d.py
  | _, .non, _, _, r => by rw [non_of r]; exact .non
  | _, .bl b, _, _, r => by rw [bl_of r]; exact .bl b
  | _, .int i, _, _, r => by rw [int_of r]; exact .int i
  | _, .str i, _, _, r => by rw [str_of r]; exact .str i
  | n + 1, .tup xs, _, f, r => by
    obtain ⟨a, vs, rfl, t, rl⟩ := tup_of r
    simp only [D.flat] at f
    simp only [D.py]
    exact .tup t.seq (dp_ofL n xs vs f rl)
  | n + 1, .lst xs, _, f, r => by
    obtain ⟨a, vs, rfl, ⟨_, t⟩, rl⟩ := lst_of r
    simp only [D.flat] at f
    simp only [D.py]
    exact .lst (.inl (.inl t)) (dp_ofL n xs vs f rl)
  | 0, .tup xs, _, f, _ => by simp [D.flat] at f
  | 0, .lst xs, _, f, _ => by simp [D.flat] at f
  | n, .frz xs, _, f, _ => by simp [D.flat] at f
  | n, .ins _ _ _, _, f, _ => by simp [D.flat] at f
  | n, .hand, _, f, _ => by simp [D.flat] at f
theorem dp_ofL {H : Hp} {N : NS} {ph : Option Addr} : ∀ (n : Nat) (ds : List D) (vs : List V), D.flatL n ds = true → RepL K cm H N ph ds vs → L2.DpAll K H vs (D.pyL ds)
  | _, [], _, _, r => by cases r.unnil; simp only [D.pyL]; exact .nil
  | n, d :: ds, _, f, r => by
    obtain ⟨v, vs, rfl, r1, r2⟩ := r.uncons
    simp only [D.flatL, Bool.and_eq_true] at f
    simp only [D.pyL]
    exact .cons (dp_of n d v f.1 r1) (dp_ofL n ds vs f.2 r2)
end
mutual
theorem py_lay : ∀ (n : Nat) (d : D), D.flat n d = true → d.py.canLay0 = true ∧ d.py.depth ≤ n
  | n, .non, _ => by simp [D.py, PyData.canLay0, PyData.depth]
  | n, .bl b, _ => by simp [D.py, PyData.canLay0, PyData.depth]
  | n, .int i, _ => by simp [D.py, PyData.canLay0, PyData.depth]
  | n, .str i, f => by
    refine ⟨?_, by simp [D.py, PyData.depth]⟩
    simp only [D.py, PyData.canLay0]
    simpa [D.flat, PyData.strOk] using f
  | n + 1, .tup xs, f => by
    simp only [D.flat] at f
    obtain ⟨h1, h2⟩ := py_layL n xs f
    simp only [D.py, PyData.canLay0, PyData.depth]
    exact ⟨h1, by omega⟩
  | n + 1, .lst xs, f => by
    simp only [D.flat] at f
    obtain ⟨h1, h2⟩ := py_layL n xs f
    simp only [D.py, PyData.canLay0, PyData.depth]
    exact ⟨h1, by omega⟩
  | 0, .tup xs, f => by simp [D.flat] at f
  | 0, .lst xs, f => by simp [D.flat] at f
  | n, .frz xs, f => by simp [D.flat] at f
  | n, .ins _ _ _, f => by simp [D.flat] at f
  | n, .hand, f => by simp [D.flat] at f
theorem py_layL : ∀ (n : Nat) (ds : List D), D.flatL n ds = true → PyData.canLayAll0 (D.pyL ds) = true ∧ PyData.depthAll (D.pyL ds) ≤ n
  | n, [], _ => by simp [D.pyL, PyData.canLayAll0, PyData.depthAll]
  | n, d :: ds, f => by
    simp only [D.flatL, Bool.and_eq_true] at f
    obtain ⟨h1, h2⟩ := py_lay n d f.1
    obtain ⟨h3, h4⟩ := py_layL n ds f.2
    simp only [D.pyL, PyData.canLayAll0, PyData.depthAll, h1, h3, Bool.and_self, true_and]
    omega
end
mutual
theorem py_eqv : ∀ (n m : Nat) (d e : D), D.flat n d = true → D.flat m e = true → PyData.eqv d.py e.py = D.eqv d e
  | n, m, .non, e, f, g => by cases e <;> first | (simp [D.flat] at g; done) | simp [D.py, PyData.eqv, D.eqv]
  | n, m, .bl b, e, f, g => by cases e <;> first | (simp [D.flat] at g; done) | simp [D.py, PyData.eqv, D.eqv]
  | n, m, .int i, e, f, g => by cases e <;> first | (simp [D.flat] at g; done) | simp [D.py, PyData.eqv, D.eqv]
  | n, m, .str x, e, f, g => by cases e <;> first | (simp [D.flat] at g; done) | simp [D.py, PyData.eqv, D.eqv]
  | n + 1, m, .tup xs, e, f, g => by
    cases e with
    | tup ys =>
      cases m with
      | zero => simp [D.flat] at g
      | succ m =>
        simp only [D.flat] at f g
        simp only [D.py, PyData.eqv, D.eqv]
        exact py_eqvL n m xs ys f g
    | _ => first | (simp [D.flat] at g; done) | simp [D.py, PyData.eqv, D.eqv]
  | n + 1, m, .lst xs, e, f, g => by
    cases e with
    | lst ys =>
      cases m with
      | zero => simp [D.flat] at g
      | succ m =>
        simp only [D.flat] at f g
        simp only [D.py, PyData.eqv, D.eqv]
        exact py_eqvL n m xs ys f g
    | _ => first | (simp [D.flat] at g; done) | simp [D.py, PyData.eqv, D.eqv]
  | 0, _, .tup xs, _, f, _ => by simp [D.flat] at f
  | 0, _, .lst xs, _, f, _ => by simp [D.flat] at f
  | n, _, .frz xs, _, f, _ => by simp [D.flat] at f
  | n, _, .ins _ _ _, _, f, _ => by simp [D.flat] at f
  | n, _, .hand, _, f, _ => by simp [D.flat] at f
theorem py_eqvL : ∀ (n m : Nat) (d e : List D), D.flatL n d = true → D.flatL m e = true → PyData.eqvAll (D.pyL d) (D.pyL e) = D.eqvL d e
  | n, m, [], e, f, g => by cases e <;> simp [D.pyL, PyData.eqvAll, D.eqvL]
  | n, m, x :: xs, [], f, g => by simp [D.pyL, PyData.eqvAll, D.eqvL]
  | n, m, x :: xs, y :: ys, f, g => by
    simp only [D.flatL, Bool.and_eq_true] at f g
    simp only [D.pyL, PyData.eqvAll, D.eqvL]
    rw [py_eqv n m x y f.1 g.1, py_eqvL n m xs ys f.2 g.2]
end
theorem py_shaped {d : D} (f : D.flat 60 d = true) : SeqAt.shaped d.py = true := by
  obtain ⟨h1, h2⟩ := py_lay 60 d f
  unfold SeqAt.shaped
  rw [h1, decide_eq_true (by omega)]; rfl
theorem eq_ok : Op2 K cm eqD (L2.rEqD K) := by
  intro xa O Wx ρ σ ph H w Q d1 d2 v1 v2 r1 r2 h
  unfold eqD at h
  by_cases hc : D.flat 60 d1 = true ∧ D.flat 60 d2 = true
  · rw [if_pos hc] at h
    exact ⟨_, _, dp_of 60 _ _ hc.1 r1, dp_of 60 _ _ hc.2 r2, py_shaped hc.1, py_shaped hc.2, h.ret (by show Rep K cm _ _ _ _ _; simp only [Rep]; rw [py_eqv 60 60 _ _ hc.1 hc.2])⟩
  · rw [if_neg hc] at h; exact h.no
theorem ne_ok : Op2 K cm neD (L2.rNeD K) := by
  intro xa O Wx ρ σ ph H w Q d1 d2 v1 v2 r1 r2 h
  unfold neD at h
  by_cases hc : D.flat 60 d1 = true ∧ D.flat 60 d2 = true
  · rw [if_pos hc] at h
    exact ⟨_, _, dp_of 60 _ _ hc.1 r1, dp_of 60 _ _ hc.2 r2, py_shaped hc.1, py_shaped hc.2, h.ret (by show Rep K cm _ _ _ _ _; simp only [Rep]; rw [py_eqv 60 60 _ _ hc.1 hc.2])⟩
  · rw [if_neg hc] at h; exact h.no

/-! in -/
theorem pyL_any {x : D} (fx : D.flat 60 x = true) : ∀ ds : List D, D.flatL 60 ds = true → ((D.pyL ds).any fun z => PyData.eqv z x.py) = ds.any fun y => D.eqv y x
  | [], _ => by simp [D.pyL]
  | d :: ds, f => by
    simp only [D.flatL, Bool.and_eq_true] at f
    simp only [D.pyL, List.any_cons]
    rw [py_eqv 60 60 d x f.1 fx, pyL_any fx ds f.2]
theorem scal_flat {H : Hp} {N : NS} {ph : Option Addr} {d : D} {v : V} (f : D.scal d = true) (r : Rep K cm H N ph d v) : L2.flatV v = true := by
  cases d with
  | non => rw [non_of r]; rfl
  | bl b => rw [bl_of r]; rfl
  | int i => rw [int_of r]; rfl
  | str x => rw [str_of r]; rfl
  | _ => cases f
theorem scal_eqV {H : Hp} {N : NS} {ph : Option Addr} {d e : D} {v u : V} (f : D.scal d = true) (g : D.scal e = true) (r : Rep K cm H N ph d v) (q : Rep K cm H N ph e u) : L2.eqV v u = D.eqv d e := by
  cases d with
  | non => rw [non_of r]; cases e <;> first | (cases g; done) | (rw [non_of q]; rfl) | (rw [bl_of q]; rfl) | (rw [int_of q]; rfl) | (rw [str_of q]; rfl)
  | bl b => rw [bl_of r]; cases e <;> first | (cases g; done) | (rw [non_of q]; rfl) | (rw [bl_of q]; rfl) | (rw [int_of q]; rfl) | (rw [str_of q]; rfl)
  | int i => rw [int_of r]; cases e <;> first | (cases g; done) | (rw [non_of q]; rfl) | (rw [bl_of q]; rfl) | (rw [int_of q]; rfl) | (rw [str_of q]; rfl)
  | str x => rw [str_of r]; cases e <;> first | (cases g; done) | (rw [non_of q]; rfl) | (rw [bl_of q]; rfl) | (rw [int_of q]; rfl) | (rw [str_of q]; rfl)
  | _ => cases f
theorem scals {H : Hp} {N : NS} {ph : Option Addr} {x : D} {u : V} (fx : D.scal x = true) (q : Rep K cm H N ph x u) : ∀ (ds : List D) (vs : List V), ds.all D.scal = true → RepL K cm H N ph ds vs → vs.all L2.flatV = true ∧ L2.inV u vs = ds.any fun y => D.eqv y x
  | [], _, _, r => by cases r.unnil; exact ⟨rfl, rfl⟩
  | d :: ds, _, f, r => by
    obtain ⟨v, vs, rfl, r1, r2⟩ := r.uncons
    simp only [List.all_cons, Bool.and_eq_true] at f
    obtain ⟨h1, h2⟩ := scals fx q ds vs f.2 r2
    refine ⟨by simp only [List.all_cons, Bool.and_eq_true]; exact ⟨scal_flat f.1 r1, h1⟩, ?_⟩
    unfold L2.inV at h2 ⊢
    simp only [List.any_cons]
    rw [h2, scal_eqV f.1 fx r1 q]
def rInA (K : PySem.W.Frag) : R2 := fun x y H Q => L2.rInD K x y H Q ∨ L2.rIn K false x y H Q
def rNotInA (K : PySem.W.Frag) : R2 := fun x y H Q => L2.rNotInD K x y H Q ∨ L2.rIn K true x y H Q
theorem op_inA (hu : X.A.units + 65 < cLine) : OpR X (compareOp .In) (rInA X.K) := L2.OpR.or (L2.op_inD hu) L2.op_in_seq
theorem op_notInA (hu : X.A.units + 65 < cLine) : OpR X (compareOp .NotIn) (rNotInA X.K) := L2.OpR.or (L2.op_notInD hu) L2.op_notIn_seq
theorem py_shapedL {ds : List D} (f : D.flatL 60 ds = true) : SeqAt.shaped (.list (D.pyL ds)) = true := by
  obtain ⟨h1, h2⟩ := py_layL 60 ds f
  have e1 : (PyData.list (D.pyL ds)).canLay0 = true := by simpa only [PyData.canLay0] using h1
  have e2 : (PyData.list (D.pyL ds)).depth ≤ 64 := by simp only [PyData.depth]; omega
  unfold SeqAt.shaped
  rw [e1, decide_eq_true e2]; rfl
theorem in_ok : Op2 K cm inD (rInA K) := by
  intro xa O Wx ρ σ ph H w Q d1 d2 v1 v2 r1 r2 h
  cases d2 with
  | lst ds =>
    by_cases hc : D.flat 60 d1 = true ∧ D.flatL 60 ds = true
    · simp only [inD, if_pos hc] at h
      obtain ⟨a, vs, rfl, ⟨_, t⟩, rl⟩ := lst_of r2
      exact .inl ⟨_, _, dp_of 60 _ _ hc.1 r1, .lst (.inl (.inl t)) (dp_ofL 60 ds vs hc.2 rl), py_shaped hc.1, py_shapedL hc.2, h.ret (by show Rep K cm _ _ _ _ _; simp only [Rep]; rw [pyL_any hc.1 ds hc.2])⟩
    · simp only [inD, if_neg hc] at h; exact h.no
  | tup ds =>
    by_cases hc : D.scal d1 = true ∧ ds.all D.scal = true
    · simp only [inD, if_pos hc] at h
      obtain ⟨a, vs, rfl, t, rl⟩ := tup_of r2
      obtain ⟨h1, h2⟩ := scals hc.1 r1 ds vs hc.2 rl
      exact .inr ⟨a, vs, rfl, .inr t.seq, scal_flat hc.1 r1, h1, by rw [if_neg Bool.false_ne_true, h2]; exact h.ret (b := .bl (ds.any fun y => D.eqv y d1)) (by simp [Rep])⟩
    · simp only [inD, if_neg hc] at h; exact h.no
  | _ => exact h.no
theorem notIn_ok : Op2 K cm notInD (rNotInA K) := by
  intro xa O Wx ρ σ ph H w Q d1 d2 v1 v2 r1 r2 h
  unfold notInD at h
  cases d2 with
  | lst ds =>
    by_cases hc : D.flat 60 d1 = true ∧ D.flatL 60 ds = true
    · simp only [inD, if_pos hc, ret_bind] at h
      obtain ⟨a, vs, rfl, ⟨_, t⟩, rl⟩ := lst_of r2
      exact .inl ⟨_, _, dp_of 60 _ _ hc.1 r1, .lst (.inl (.inl t)) (dp_ofL 60 ds vs hc.2 rl), py_shaped hc.1, py_shapedL hc.2, h.ret (by show Rep K cm _ _ _ _ _; simp only [Rep]; rw [pyL_any hc.1 ds hc.2])⟩
    · simp only [inD, if_neg hc] at h; exact h.no
  | tup ds =>
    by_cases hc : D.scal d1 = true ∧ ds.all D.scal = true
    · simp only [inD, if_pos hc, ret_bind] at h
      obtain ⟨a, vs, rfl, t, rl⟩ := tup_of r2
      obtain ⟨h1, h2⟩ := scals hc.1 r1 ds vs hc.2 rl
      exact .inr ⟨a, vs, rfl, .inr t.seq, scal_flat hc.1 r1, h1, by rw [if_pos rfl, h2]; exact h.ret (b := .bl (!ds.any fun y => D.eqv y d1)) (by simp [Rep])⟩
    · simp only [inD, if_neg hc] at h; exact h.no
  | _ => exact h.no
/-! is -/
theorem isNon_rep {H : Hp} {N : NS} {ph : Option Addr} {d : D} {v : V} (r : Rep K cm H N ph d v) : decide (v = .non) = d.isNon := by
  cases d with
  | non => rw [non_of r]; rfl
  | bl b => rw [bl_of r]; rfl
  | int i => rw [int_of r]; rfl
  | str x => rw [str_of r]; rfl
  | tup xs => obtain ⟨a, vs, rfl, _⟩ := tup_of r; rfl
  | lst xs => obtain ⟨a, vs, rfl, _⟩ := lst_of r; rfl
  | frz xs => obtain ⟨a, vs, rfl, _⟩ := frz_of r; rfl
  | ins c ns xs => simp only [Rep] at r; obtain ⟨a, dx, vs, rfl, _⟩ := r; rfl
  | hand => simp only [Rep] at r; obtain ⟨p, _, rfl⟩ := r; rfl
theorem isNon_ok : Op2 K cm isNonD (fun x y H Q => y = .non ∧ Q (.bl (decide (x = .non))) H) := by
  intro xa O Wx ρ σ ph H w Q d1 d2 v1 v2 r1 r2 h
  cases d2 <;> try exact h.no
  exact ⟨non_of r2, by rw [isNon_rep r1]; exact h.ret (b := .bl d1.isNon) (by simp [Rep])⟩
theorem notNon_ok : Op2 K cm notNonD (fun x y H Q => y = .non ∧ Q (.bl (!decide (x = .non))) H) := by
  intro xa O Wx ρ σ ph H w Q d1 d2 v1 v2 r1 r2 h
  cases d2 <;> try exact h.no
  exact ⟨non_of r2, by rw [isNon_rep r1]; exact h.ret (b := .bl (!d1.isNon)) (by simp [Rep])⟩
theorem is_ok : Op2 K cm isD L2.rIsB := by
  intro xa O Wx ρ σ ph H w Q d1 d2 v1 v2 r1 r2 h
  cases d1 <;> cases d2 <;> try exact h.no
  rename_i i j
  exact ⟨i, j, bl_of r1, bl_of r2, h.ret (b := .bl _) (by simp [Rep])⟩
theorem isNot_ok : Op2 K cm isNotD L2.rNotB := by
  intro xa O Wx ρ σ ph H w Q d1 d2 v1 v2 r1 r2 h
  cases d1 <;> cases d2 <;> try exact h.no
  rename_i i j
  exact ⟨i, j, bl_of r1, bl_of r2, h.ret (b := .bl _) (by simp [Rep])⟩

/-! items -/
theorem ixP_eq (n : Nat) (i : Int) : L2.ixN n i = ixP n i := by
  unfold L2.ixN ixP
  by_cases h0 : 0 ≤ i
  · by_cases h1 : i < n
    · simp [h0, h1]
    · have h2 : ¬ i < 0 := by omega
      simp [h0, h1, h2]
  · have h2 : i < 0 := by omega
    by_cases h1 : -(n : Int) ≤ i
    · have h3 : 0 ≤ i + n := by omega
      simp [h0, h1, h2, h3]
    · have h3 : ¬ 0 ≤ i + n := by omega
      simp [h0, h1, h2, h3]
theorem itemAt_eq {α : Type} (xs : List α) (i : Int) : L2.atI xs i = itemAt xs i := by
  unfold L2.atI itemAt
  rw [ixP_eq]
  cases ixP xs.length i <;> rfl
theorem RepL.item {H : Hp} {N : NS} {ph : Option Addr} {ds : List D} {vs : List V} {i : Int} {d : D} (r : RepL K cm H N ph ds vs) (e : itemAt ds i = some d) : ∃ v, L2.atI vs i = some v ∧ Rep K cm H N ph d v := by
  rw [itemAt_eq]
  unfold itemAt at e ⊢
  rw [← r.length]
  cases q : ixP ds.length i with
  | none => rw [q] at e; cases e
  | some j => rw [q] at e; exact r.get e
theorem ixL_run {xa O Wx ρ σ ph H w} {Q : VK} {ds : List D} {vs : List V} {d2 : D} {v2 : V} (r : RepL K cm H (OO O ph) ph ds vs) (r2 : Rep K cm H (OO O ph) ph d2 v2) (h : Run K cm xa O (relV K cm O) Wx ρ σ ph H w (ixL ds d2) Q) :
    ∃ i v, v2 = .int i ∧ L2.atI vs i = some v ∧ Q v H := by
  cases d2 with
  | int i =>
    unfold ixL at h
    simp only at h
    cases e : itemAt ds i with
    | none => rw [e] at h; exact h.no
    | some d =>
      rw [e] at h
      obtain ⟨v, e1, r3⟩ := r.item e
      exact ⟨i, v, int_of r2, e1, h.ret r3⟩
  | _ => exact h.no
theorem ix_ok : Op2 K cm ixD (L2.rIx K) := by
  intro xa O Wx ρ σ ph H w Q d1 d2 v1 v2 r1 r2 h
  cases d1 with
  | lst ds =>
    obtain ⟨a, vs, rfl, ⟨_, t⟩, rl⟩ := lst_of r1
    obtain ⟨i, v, e1, e2, q⟩ := ixL_run rl r2 h
    exact .inl ⟨a, vs, i, v, rfl, e1, .inl (.inl t), e2, q⟩
  | frz ds =>
    obtain ⟨a, vs, rfl, t, rl⟩ := frz_of r1
    obtain ⟨i, v, e1, e2, q⟩ := ixL_run rl r2 h
    exact .inl ⟨a, vs, i, v, rfl, e1, t.seq, e2, q⟩
  | tup ds =>
    obtain ⟨a, vs, rfl, t, rl⟩ := tup_of r1
    obtain ⟨i, v, e1, e2, q⟩ := ixL_run rl r2 h
    exact .inr (.inl ⟨a, vs, i, v, rfl, e1, t.seq, e2, q⟩)
  | hand =>
    simp only [Rep] at r1
    obtain ⟨p, rfl, rfl⟩ := r1
    have ha := h.hand
    cases w with
    | none => exact ha.elim
    | some hs =>
      obtain ⟨vs, t, rl⟩ := ha
      obtain ⟨i, v, e1, e2, q⟩ := ixL_run rl r2 (⟨h.env, h.hand, h.post⟩ : Run K cm xa O (relV K cm O) Wx ρ σ (some p) H (some hs) (ixL hs d2) Q)
      exact .inl ⟨p, vs, i, v, rfl, e1, .inl (.inl t), e2, q⟩
  | _ => exact h.no
theorem px_ix {a b : Expr} {fa fb : EF} {c : Cfg} {pos : Pos} (ha : PX X c a fa) (hb : PX X c b fb) (hs : L2.PlainIx b := by exact fun _ _ => rfl) : PX X c (.Subscript a b pos) (eBin ixD fa fb) :=
  PE.to (L2.pe_ix L2.ix_seq ha hb hs) (bin_to ix_ok)

/-! slices -/
theorem cutAt_eq (n d : Nat) (o : Option Int) : HT.sIx n d o = cutAt n d o := by
  cases o with
  | none => rfl
  | some i =>
    show (if i < 0 then (i + (n : Int)).toNat else min i.toNat n) = (if 0 ≤ i then min i.toNat n else (i + (n : Int)).toNat)
    by_cases h : i < 0
    · rw [if_pos h, if_neg (by omega)]
    · rw [if_neg h, if_pos (by omega)]
theorem cutL_eq (vs : List V) (lo hi : Option Int) : L2.cutV vs lo hi = cutL vs lo hi := by
  unfold L2.cutV cutL
  rw [cutAt_eq, cutAt_eq]
theorem RepL.cut {H : Hp} {N : NS} {ph : Option Addr} {ds : List D} {vs : List V} (r : RepL K cm H N ph ds vs) (lo hi : Option Int) : RepL K cm H N ph (cutL ds lo hi) (cutL vs lo hi) := by
  unfold cutL
  rw [← r.length]
  exact (r.drop _).take _
def rSlA (K : PySem.W.Frag) : V → Option Int → Option Int → Hp → VK → Prop := fun x lo hi H Q => L2.rSlL K x lo hi H Q ∨ L2.rSlT K x lo hi H Q
theorem sl_all : L2.SlR X (rSlA X.K) := L2.SlR.or L2.sl_list L2.sl_tup
theorem slice_ok {xa O Wx ρ σ ph H w} {Q : VK} {d : D} {v : V} {lo hi : Option Int} (r : Rep K cm H (OO O ph) ph d v) (h : Run K cm xa O (relV K cm O) Wx ρ σ ph H w (sliceD d lo hi) Q) : rSlA K v lo hi H Q := by
  cases d with
  | lst ds =>
    obtain ⟨a, vs, rfl, ⟨_, t⟩, rl⟩ := lst_of r
    exact .inl ⟨a, vs, rfl, .inl (.inl t), fun p hp => by rw [cutL_eq]; exact h.lst hp (rl.cut lo hi)⟩
  | tup ds =>
    obtain ⟨a, vs, rfl, t, rl⟩ := tup_of r
    by_cases hc : ¬ (cutAt ds.length 0 lo = 0 ∧ cutAt ds.length ds.length hi = ds.length)
    · simp only [sliceD, if_pos hc] at h
      exact .inr ⟨a, vs, rfl, t.seq, by rw [cutAt_eq, cutAt_eq, ← rl.length]; exact hc, fun p hp => by rw [cutL_eq]; exact h.tup hp (rl.cut lo hi)⟩
    · simp only [sliceD, if_neg hc] at h; exact h.no
  | _ => exact h.no
/-- a part of a slice -/
abbrev partF : Option EF → Env → M (Option Int) := fun o ρ => match o with
  | none => M.ret none
  | some e => M.bind (e ρ) fun y => match y with | .int i => M.ret (some i) | _ => M.fail
def relO : Hp → Option Addr → Option Int → Option Int → Prop := fun _ _ a b => a = b
abbrev POX (X : Cx) (c : Cfg) (e : Option Expr) (f : Option EF) : Prop := L2.PO X e fun σ H Q => ∃ O ρ ph w, Run X.K c.cm c.xa O relO c.Wx ρ σ ph H w (partF f ρ) Q
theorem PO.to {e : Option Expr} {t t' : L2.TO} (h : L2.PO X e t) (m : ∀ σ H Q, t' σ H Q → t σ H Q) : L2.PO X e t' := by
  obtain ⟨h⟩ := h
  exact ⟨fun pins s σ H Q I q => h pins s σ H Q I (m σ H Q q)⟩
variable {c : Cfg}
theorem pox_none : POX X c none none := PO.to L2.po_none fun σ H Q ⟨O, ρ, ph, w, h⟩ => h.ret (b := none) rfl
theorem pox_some {e : Expr} {fe : EF} (h : PX X c e fe) : POX X c (some e) (some fe) := PO.to (L2.po_some h) fun σ H Q ⟨O, ρ, ph, w, h⟩ => ⟨O, ρ, ph, w, h.bind.imp fun v H1 ⟨d, ph1, w1, e1, s1, r1, h1⟩ => by
  cases d with
  | int i => exact ⟨i, int_of r1, h1.ret (b := some i) rfl⟩
  | _ => exact h1.no⟩
theorem px_slice {e : Expr} {fe : EF} {lo hi : Option Expr} {fl fh : Option EF} {p2 pos : Pos} (he : PX X c e fe) (hl : POX X c lo fl) (hu : POX X c hi fh) : PX X c (.Subscript e (.Slice lo hi none p2) pos) (eSlice fe fl fh) :=
  PE.to (L2.pe_slice sl_all he hl hu) fun σ H Q ⟨O, ρ, ph, w, h⟩ => ⟨O, ρ, ph, w, h.bind.imp fun v H1 ⟨d, ph1, w1, e1, s1, r1, h1⟩ =>
    ⟨O, ρ, ph1, w1, (Run.bind (rel := relO) h1).imp fun l H2 ⟨l', ph2, w2, e2, s2, r2, h2⟩ => ⟨O, ρ, ph2, w2, (Run.bind (rel := relO) h2).imp fun u H3 ⟨u', ph3, w3, e3, s3, r3, h3⟩ => by
      cases r2; cases r3
      exact slice_ok (Rep.keep (Ext.keep e3 s3) s3.m d v (Rep.keep (Ext.keep e2 s2) s2.m d v r1)) h3⟩⟩⟩

/-! built-ins of one argument, of two -/
def un1 (f : D → M D) : List D → M D
  | [d] => f d
  | _ => M.fail
def bin2 (f : D → D → M D) : List D → M D
  | [d, e] => f d e
  | _ => M.fail
theorem un1_run {xa O Wx ρ σ ph H w} {Q : VK} {f : D → M D} {ds : List D} {vs : List V} (r : RepL K cm H (OO O ph) ph ds vs) (h : Run K cm xa O (relV K cm O) Wx ρ σ ph H w (un1 f ds) Q) :
    ∃ d v, vs = [v] ∧ Rep K cm H (OO O ph) ph d v ∧ Run K cm xa O (relV K cm O) Wx ρ σ ph H w (f d) Q := by
  cases ds with
  | nil => exact h.no
  | cons d ds =>
    cases ds with
    | nil =>
      obtain ⟨v, vs, rfl, r1, r2⟩ := r.uncons
      cases r2.unnil
      exact ⟨d, v, rfl, r1, h⟩
    | cons => exact h.no
theorem bin2_run {xa O Wx ρ σ ph H w} {Q : VK} {f : D → D → M D} {ds : List D} {vs : List V} (r : RepL K cm H (OO O ph) ph ds vs) (h : Run K cm xa O (relV K cm O) Wx ρ σ ph H w (bin2 f ds) Q) :
    ∃ d e v u, vs = [v, u] ∧ Rep K cm H (OO O ph) ph d v ∧ Rep K cm H (OO O ph) ph e u ∧ Run K cm xa O (relV K cm O) Wx ρ σ ph H w (f d e) Q := by
  cases ds with
  | nil => exact h.no
  | cons d ds =>
    cases ds with
    | nil => exact h.no
    | cons e ds =>
      cases ds with
      | nil =>
        obtain ⟨v, vs, rfl, r1, r2⟩ := r.uncons
        obtain ⟨u, us, rfl, r3, r4⟩ := r2.uncons
        cases r4.unnil
        exact ⟨d, e, v, u, rfl, r1, r3, h⟩
      | cons => exact h.no
theorem le_size {n : Nat} (h : n ≤ line) : n ≤ sizeLine := Nat.le_trans h (Nat.le_of_eq sizeLine_eq.symm)
theorem lenV_str {H : Hp} {x : Str} (h : x.length ≤ line) : L2.LenV K (.str x) H x.length := And.intro (le_size h) (Eq.refl _)
theorem len_ok : OpL K cm (un1 lenD) (fun xs H Q => ∃ x n, xs = [x] ∧ L2.LenV K x H n ∧ Q (.int n) H) := by
  intro xa O Wx ρ σ ph H w Q ds vs r h
  obtain ⟨d, v, rfl, r1, h1⟩ := un1_run r h
  cases d with
  | str x =>
    rw [str_of r1]
    by_cases hl : x.length ≤ line
    · rw [lenD_str, if_pos hl] at h1
      exact ⟨.str x, x.length, rfl, lenV_str hl, h1.ret (b := .int (x.length : Int)) (by simp [Rep])⟩
    · rw [lenD_str, if_neg hl] at h1; exact h1.no
  | lst ds =>
    obtain ⟨a, vs, rfl, ⟨_, t⟩, rl⟩ := lst_of r1
    exact ⟨.ref a, vs.length, rfl, .inl ⟨vs, .inl (.inl t), rfl⟩, h1.ret (b := .int (vs.length : Int)) (by simp [Rep, rl.length])⟩
  | frz ds =>
    obtain ⟨a, vs, rfl, t, rl⟩ := frz_of r1
    exact ⟨.ref a, vs.length, rfl, .inl ⟨vs, t.seq, rfl⟩, h1.ret (b := .int (vs.length : Int)) (by simp [Rep, rl.length])⟩
  | tup ds =>
    obtain ⟨a, vs, rfl, t, rl⟩ := tup_of r1
    exact ⟨.ref a, vs.length, rfl, .inr ⟨vs, t.seq, rfl⟩, h1.ret (b := .int (vs.length : Int)) (by simp [Rep, rl.length])⟩
  | hand =>
    simp only [Rep] at r1
    obtain ⟨p, rfl, rfl⟩ := r1
    have ha := h1.hand
    cases w with
    | none => exact ha.elim
    | some hs =>
      obtain ⟨vs, t, rl⟩ := ha
      exact ⟨.ref p, vs.length, rfl, .inl ⟨vs, .inl (.inl t), rfl⟩, (⟨h1.env, h1.hand, h1.post⟩ : Run K cm xa O (relV K cm O) Wx ρ σ (some p) H (some hs) (M.ret (.int hs.length)) Q).ret (b := .int (vs.length : Int)) (by simp [Rep, rl.length])⟩
  | _ => exact h1.no
theorem int_ok : OpL K cm (un1 intD) (fun xs H Q => (∃ i, xs = [.int i] ∧ Q (.int i) H) ∨ ∃ k, xs = [.bl k] ∧ Q (.int (if k then 1 else 0)) H) := by
  intro xa O Wx ρ σ ph H w Q ds vs r h
  obtain ⟨d, v, rfl, r1, h1⟩ := un1_run r h
  cases d with
  | int i => rw [int_of r1]; exact .inl ⟨i, rfl, h1.ret (b := .int _) (by simp [Rep])⟩
  | bl i => rw [bl_of r1]; exact .inr ⟨i, rfl, h1.ret (b := .int _) (by simp [Rep])⟩
  | _ => exact h1.no
theorem abs_ok : OpL K cm (un1 absD) (fun xs H Q => ∃ i, xs = [.int i] ∧ Q (.int (if i < 0 then -i else i)) H) := by
  intro xa O Wx ρ σ ph H w Q ds vs r h
  obtain ⟨d, v, rfl, r1, h1⟩ := un1_run r h
  cases d with
  | int i => rw [int_of r1]; exact ⟨i, rfl, h1.ret (b := .int _) (by simp [Rep])⟩
  | _ => exact h1.no
theorem str_ok : OpL K cm (un1 strD) (fun xs H Q => ∃ i, xs = [.int i] ∧ i.natAbs.log2 < 1920 ∧ Q (.str (toString i)) H) := by
  intro xa O Wx ρ σ ph H w Q ds vs r h
  obtain ⟨d, v, rfl, r1, h1⟩ := un1_run r h
  cases d with
  | int i =>
    rw [int_of r1]
    by_cases hl : i.natAbs.log2 < 1920
    · simp only [strD, if_pos hl] at h1
      exact ⟨i, rfl, hl, h1.ret (b := .str _) (by simp [Rep])⟩
    · simp only [strD, if_neg hl] at h1; exact h1.no
  | _ => exact h1.no
theorem gcd_ok : OpL K cm (bin2 gcdD) L2.rGcd := by
  intro xa O Wx ρ σ ph H w Q ds vs r h
  obtain ⟨d, e, v, u, rfl, r1, r2, h1⟩ := bin2_run r h
  cases d <;> cases e <;> try exact h1.no
  rename_i i j
  exact ⟨i, j, by rw [int_of r1, int_of r2], h1.ret (b := .int _) (by simp [Rep])⟩
theorem tuple_ok : OpL K cm (un1 tupD) (fun xs H Q => ∃ p ys, xs = [.ref p] ∧ ((L2.SqL K H p ys ∧ ∀ l, H l = none → Q (.ref l) (upd H l (.tup ys))) ∨ (L2.SqT K H p ys ∧ Q (.ref p) H))) := by
  intro xa O Wx ρ σ ph H w Q ds vs r h
  obtain ⟨d, v, rfl, r1, h1⟩ := un1_run r h
  cases d with
  | lst ds =>
    obtain ⟨a, vs, rfl, ⟨_, t⟩, rl⟩ := lst_of r1
    exact ⟨a, vs, rfl, .inl ⟨.inl (.inl t), fun p hp => h1.tup hp rl⟩⟩
  | tup ds =>
    obtain ⟨a, vs, rfl, t, rl⟩ := tup_of r1
    exact ⟨a, vs, rfl, .inr ⟨t.seq, h1.ret r1⟩⟩
  | _ => exact h1.no
theorem list_ok : OpL K cm (un1 listD) (fun xs H Q => ∃ p ys, xs = [.ref p] ∧ (L2.SqL K H p ys ∨ L2.SqT K H p ys) ∧ ∀ l, H l = none → Q (.ref l) (upd H l (.lst ys))) := by
  intro xa O Wx ρ σ ph H w Q ds vs r h
  obtain ⟨d, v, rfl, r1, h1⟩ := un1_run r h
  cases d with
  | lst ds =>
    obtain ⟨a, vs, rfl, ⟨_, t⟩, rl⟩ := lst_of r1
    exact ⟨a, vs, rfl, .inl (.inl (.inl t)), fun p hp => h1.lst hp rl⟩
  | tup ds =>
    obtain ⟨a, vs, rfl, t, rl⟩ := tup_of r1
    exact ⟨a, vs, rfl, .inr t.seq, fun p hp => h1.lst hp rl⟩
  | _ => exact h1.no
end
end FL

/-! FN: an own error is made, and it is told that its context is None. -/
namespace FL
open PySem L2 PyProof.Rows PySem.Spec
section
variable {X : Cx} {e1 : Expr} {es : List Expr} {t1 : TA} {at_ : Pos}
theorem passN : Passes (L2N.CX X.prog X.w) X (fun _ _ _ => False) := fun _ _ _ _ _ _ _ c => by
  obtain ⟨_, _, _, _, _, _, _, _, _, _, _, _, no⟩ := c
  exact no.elim
theorem pmkN {CT : CXT} {nx : Str} {Cl ini : Addr} {lv : Nat} {fdat : FuncData} {pps : List Str} {spc : Sp} {dvals : List Value} {dvv : List V} {np : Pos} (T : OexC X.K Cl) (hI : PySem.W.findIn X.K (.ref Cl) "__init__" = some (some (.ref ini)))
    (hT : PySem.W.typeIn X.K (.ref ini) = some (.type "function")) (Fn : FnOk X.prog X.w X.K X.mg X.base CT lv ini fdat pps spc) (room : Room (lv + 1) X.A) (bi : Binds X.K fdat pps dvals) (dv : Vals dvv dvals) (pass : Passes CT X (fun _ _ _ => False))
    (gl : Gl X nx) (mg : X.mg nx = some (.ref Cl)) (args : PA X (e1 :: es) t1) (ndb : (nx == ("__debug__" : Str)) = false := by decide) (st : starEach (e1 :: es) X.env = (false, eval e1 X.env) :: starEach es X.env := by rfl) (pl : (backTo at_ (starEach es X.env)).any (·.1) = false := by rfl) :
    L2N.PMk X (.Call (.Name nx np) (e1 :: es) [] at_) (tMkO Cl spc dvv t1) := by
  intro pp s0 z g W I0 want
  obtain ⟨n1, n2, n3, n4, bm, n6, n7, n8, n9, n10, k0, k1, k2, k3, k5, hC, hbm⟩ := T.cls
  refine wpAny_Call_Name_kw (ld_glob I0 gl mg ?_ ndb)
  refine PySem.W.callWith_K (h₀ := X.base) I0.ok.mod.kin T.kC (thn (args.run at_ pp s0 z g _ I0 want) fun us s1 got => ?_) st pl
  obtain ⟨vs, g1, J, rel, size, q1⟩ := got
  refine ⟨J.kIn, ?_⟩
  show wpAny _ _ (call (.ref Cl) us) _ _ _
  obtain ⟨hp, gen, dr, tk, os⟩ := s1
  generalize hnx : hp.objs.size + 1 = nw at *
  have le : hp.objs.size ≤ nw := by omega
  have q2 := q1 nw (J.hok.fresh le)
  generalize hh2 : (hp.push (PySem.W.kdv_tup us)).push (PySem.HandSPX.excO Cl hp.objs.size) = h2
  have grow : ∀ b o, hp.get? b = some o → h2.get? b = some o := fun b o e => by rw [← hh2]; exact Heap.get?_push_of_some _ (Heap.get?_push_of_some _ e)
  have there : h2.get? nw = some (PySem.HandSPX.excO Cl hp.objs.size) := by rw [← hh2, ← hnx]; heap_get
  have J2 : Inv X pp z (upd g1 nw (exo nw Cl none)) ⟨h2, gen, dr, tk, os⟩ := J.laid (t' := tk) (a := nw) (o := exo nw Cl none) (h' := h2) grow le (exo_ok there)
  have rel2 : Vals (V.ref nw :: (vs ++ dvv)) (Value.ref nw :: (us ++ dvals)) := .cons rfl (rel.append dv)
  have len2 : (Value.ref nw :: us ++ dvals).length = pps.length := by
    have := rel2.length
    rw [Fn.len _ _ _ _ q2] at this
    exact this.symm
  have few : us.length ≤ sizeLine := by
    rw [← Paired.length rel, sizeLine_eq]
    omega
  have runs := Fn.run _ X.stack _ _ ⟨Value.ref nw :: us, []⟩ (Value.ref nw :: (us ++ dvals)) _ _ (fun _ _ _ => False) (room.make Cl us []) (J2.env0.make Cl us []) (bi _ (Value.ref nw :: us) J2.kIn len2) rel2 q2
  subst hh2 hnx
  refine wpAny_call (PySem.HandSPX.call_own F.excBase_ValueError (fun Y => PySem.HandSPX.refsVE_contains Y bm hbm) (J.kIn _ _ hC) (PySem.W.looks_findIn J.kIn hI) (fun me => PySem.W.bind_fn J.kIn me hT) few (codeAny_mono runs fun r s' end_ => ?_))
  match r, end_ with
  | .error er, end_ => exact pass pp z _ _ er s' J2 end_
  | .ok .next, end_ => exact False.elim end_
  | .ok .brk, end_ => exact False.elim end_
  | .ok .cont, end_ => exact False.elim end_
  | .ok (.ret u), end_ =>
    obtain ⟨v, g2, o2, b2, un2, hok2, rv, ev, d, fs, ea, ed, dn, q3⟩ := end_
    subst ev
    obtain ⟨h3, gen3, dr3, tk3, os3⟩ := s'
    obtain ⟨t0, G, J3, kG, ge, hoe, na⟩ := mk_end0 (d2 := dr3) (t2 := tk3) J le grow un2 hok2 o2 b2 ea ed dn
    exact ⟨rv, hp.objs.size + 1, _, _, ⟨G, gen3, dr3, tk3, os3⟩, _, .ref Cl, some d, rfl, J3, kG, ge, hoe, ⟨rfl, rfl, fun ws hw => (by cases hw; rfl)⟩, rfl, rfl, na, rfl, b2, raises_own T.exC T.tyC, q3⟩
end
end FL

/-! F5: isinstance, constants, f-strings, new lists; what a def promises, calls. -/
namespace FL
open PySem
open L2 (V Hp HO Cx Inv VK XK TE TT TA TS TI TG PE PT PA PS PSs PI PG Ends WX RelV Vals Rd upd upd_same upd_ne ne_of_none EP TP AP OpR R2 CallR FnOk Room Binds)

/-! ### isinstance -/
def Ty.nm : Ty → String
  | .int => "int" | .bool => "bool" | .str => "str" | .tuple => "tuple" | .list => "list" | .dict => "dict" | .cls _ => ""
def Ty.ok : Ty → Bool
  | .cls _ => false
  | _ => true
def D.tyNm : D → Option String
  | .non => some "NoneType" | .bl _ => some "bool" | .int _ => some "int" | .str _ => some "str" | .tup _ => some "tuple" | .lst _ | .frz _ | .hand => some "list"
  | .ins _ _ _ => none
section
variable {K : PySem.W.Frag} {cm : Nat → Addr} {X : Cx} {c : Cfg} {pos : Pos}
theorem tyX_of {H : Hp} {O : NS} {ph : Option Addr} {w : Wd} {d : D} {v : V} {n : String} (hh : HandOk K cm H O ph w) (r : Rep K cm H (OO O ph) ph d v) (e : d.tyNm = some n) : L2.TyX K H v (.type n) := by
  cases d with
  | non => cases e; rw [non_of r]; exact .base .non
  | bl b => cases e; rw [bl_of r]; exact .base (.bl b)
  | int b => cases e; rw [int_of r]; exact .base (.int b)
  | str b => cases e; rw [str_of r]; exact .base (.str b)
  | tup ds =>
    cases e
    obtain ⟨a, vs, rfl, t, _⟩ := tup_of r
    rcases t with ⟨_, t | ⟨o, t⟩⟩ | ⟨o, its, k, h1, h2, _⟩
    · exact .base (.tup t)
    · exact .fTuple t
    · exact .kTuple h1 h2
  | lst ds =>
    cases e
    obtain ⟨a, vs, rfl, ⟨_, t⟩, _⟩ := lst_of r
    exact .base (.lst t)
  | frz ds =>
    cases e
    obtain ⟨a, vs, rfl, t, _⟩ := frz_of r
    rcases t with ⟨_, t | ⟨o, t⟩⟩ | ⟨o, its, k, h1, h2, _⟩
    · exact .base (.lst t)
    · exact .base (.frz t)
    · exact .kList h1 h2
  | hand =>
    cases e
    simp only [Rep] at r
    obtain ⟨p, e, rfl⟩ := r
    obtain ⟨vs, t⟩ := hh.tr e
    exact .base (.lst t)
  | ins => cases e
theorem kit_all (t : Ty) (ht : t.ok = true) (d : D) {n : String} (e : d.tyNm = some n) : L2.kitB n t.nm = some (isT t d) := by
  cases d <;> simp only [D.tyNm, Option.some.injEq, reduceCtorEq] at e <;> subst e <;> cases t <;> first | (cases ht; done) | (simp only [isT, Ty.nm]; decide +kernel)
def isiB (ts : List Ty) (d : D) : M D := match d.tyNm with
  | some _ => if ts.all Ty.ok = true then M.ret (.bl (ts.any fun t => isT t d)) else M.fail
  | none => M.fail
theorem isi_run {xa O Wx ρ σ ph H w} {Q : VK} {ts : List Ty} {d : D} (h : Run K cm xa O (relV K cm O) Wx ρ σ ph H w (isiB ts d) Q) : ∃ n, d.tyNm = some n ∧ ts.all Ty.ok = true ∧ Run K cm xa O (relV K cm O) Wx ρ σ ph H w (M.ret (.bl (ts.any fun t => isT t d))) Q := by
  unfold isiB at h
  cases e : d.tyNm with
  | none => rw [e] at h; exact h.no
  | some n =>
    rw [e] at h
    by_cases hc : ts.all Ty.ok = true
    · simp only [if_pos hc] at h; exact ⟨n, rfl, hc, h⟩
    · simp only [if_neg hc] at h; exact h.no
/-- isinstance(e, T) -/
theorem px_isi {e : Expr} {fe : EF} {x : Str} {p p2 : Pos} (t : Ty) (hg : L2.Gl X "isinstance") (hm : X.mg "isinstance" = none) (hgT : L2.Gl X x) (hmT : X.mg x = none) (hvT : bootBuiltins x = some (.type t.nm)) (he : PX X c e fe)
    (hnT : x ≠ "__name__" := by decide) (hdT : (x == ("__debug__" : Str)) = false := by decide) (hv : bootBuiltins "isinstance" = some (.builtin "isinstance") := by decide +kernel)
    (hs : starEach (e :: [.Name x p2]) X.env = (false, eval e X.env) :: starEach [.Name x p2] X.env := by rfl) (hpl : (backTo pos (starEach [.Name x p2] X.env)).any (·.1) = false := by rfl) : PX X c (.Call (.Name "isinstance" p) (e :: [.Name x p2]) [] pos) (eUn (isiB [t]) fe) :=
  PE.to (L2.pe_callB L2.call_isi hg hm hv (L2.pa_cons he (L2.pa_cons (L2.pe_bltn (v := .ty t.nm) hgT hmT hvT rfl hnT hdT) L2.pa_nil (by rfl)) hs) (by decide) (by decide) hs hpl) fun σ H Q ⟨O, ρ, ph, w, h⟩ => ⟨O, ρ, ph, w, h.bind.imp fun v H1 ⟨d, ph1, w1, e1, s1, r1, h1⟩ => by
    obtain ⟨n, en, hk, h2⟩ := isi_run h1
    simp only [List.all_cons, List.all_nil, Bool.and_true] at hk
    exact ⟨v, .ty t.nm, .type n, .type t.nm, _, rfl, .ty _, tyX_of h2.hand r1 en, L2.kit_ty (kit_all t hk d en), h2.ret (b := .bl (isT t d)) (by simp [Rep])⟩⟩
/-- isinstance(e, (T, U)) -/
theorem px_isi2 {e : Expr} {fe : EF} {x y : Str} {p p2 p3 p4 : Pos} {k : Nat} (t u : Ty) (hg : L2.Gl X "isinstance") (hm : X.mg "isinstance" = none) (hgT : L2.Gl X x) (hmT : X.mg x = none) (hvT : bootBuiltins x = some (.type t.nm)) (hgU : L2.Gl X y) (hmU : X.mg y = none) (hvU : bootBuiltins y = some (.type u.nm)) (he : PX X c e fe)
    (hnT : x ≠ "__name__" := by decide) (hdT : (x == ("__debug__" : Str)) = false := by decide) (hnU : y ≠ "__name__" := by decide) (hdU : (y == ("__debug__" : Str)) = false := by decide) (hv : bootBuiltins "isinstance" = some (.builtin "isinstance") := by decide +kernel)
    (hs : starEach (e :: [.Tuple [.Name x p2, .Name y p3] k p4]) X.env = (false, eval e X.env) :: starEach [.Tuple [.Name x p2, .Name y p3] k p4] X.env := by rfl) (hpl : (backTo pos (starEach [.Tuple [.Name x p2, .Name y p3] k p4] X.env)).any (·.1) = false := by rfl) :
    PX X c (.Call (.Name "isinstance" p) (e :: [.Tuple [.Name x p2, .Name y p3] k p4]) [] pos) (eUn (isiB [t, u]) fe) :=
  PE.to (L2.pe_callB L2.call_isiT hg hm hv (L2.pa_cons he (L2.pa_cons (L2.pe_tup (L2.pa_cons (L2.pe_bltn (v := .ty t.nm) hgT hmT hvT rfl hnT hdT) (L2.pa_cons (L2.pe_bltn (v := .ty u.nm) hgU hmU hvU rfl hnU hdU) L2.pa_nil (by rfl)) (by rfl))) L2.pa_nil (by rfl)) hs) (by decide) (by decide) hs hpl)
    fun σ H Q ⟨O, ρ, ph, w, h⟩ => ⟨O, ρ, ph, w, h.bind.imp fun v H1 ⟨d, ph1, w1, e1, s1, r1, h1⟩ => by
    obtain ⟨n, en, hk, h2⟩ := isi_run h1
    simp only [List.all_cons, List.all_nil, Bool.and_true, Bool.and_eq_true] at hk
    refine ⟨by show 2 ≤ sizeLine; decide, fun tp htp => ?_⟩
    have x2 : Ext ph1 H1 (upd H1 tp (.tup [.ty t.nm, .ty u.nm])) := ext_new htp
    have hd2 := h2.hand.new (o := .tup [.ty t.nm, .ty u.nm]) htp
    have r2 := Rep.keep (Ext.keep x2 .refl) (fun _ e => e) d v r1
    show L2.rIsiT X.K [v, .ref tp] (upd H1 tp (.tup [.ty t.nm, .ty u.nm])) Q
    refine ⟨v, tp, _, .type n, [.type t.nm, .type u.nm], _, rfl, upd_same, .cons (.ty _) (.cons (.ty _) .nil), tyX_of hd2 r2 en, ?_, h2.ret_at (b := .bl ([t, u].any fun t => isT t d)) x2 hd2 (by simp [Rep])⟩
    refine L2.kitAny_cons (L2.kit_ty (kit_all t hk.1 d en)) (fun hf => L2.kitAny_cons (L2.kit_ty (kit_all u hk.2 d en)) (fun hf2 => ?_) fun hf2 => ?_) fun hf => ?_
    · simp [List.any_cons, hf, hf2, L2.kitAny_nil]
    · simp [List.any_cons, hf2]
    · simp [List.any_cons, hf]⟩

/-! ### constants of the module -/
theorem px_glob {x : Str} {v : V} {u : Value} {d : D} (hg : L2.Gl X x) (hm : X.mg x = some u) (hr : RelV v u) (r : ∀ {H N ph}, Rep X.K c.cm H N ph d v) (hd : (x == ("__debug__" : Str)) = false := by decide) : PX X c (.Name x pos) (eC d) :=
  PE.to (L2.pe_glob hg hm hr hd) fun σ H Q ⟨O, ρ, ph, w, h⟩ => show Q v H from h.ret r
theorem px_gint {x : Str} {i : Int} {t : Tok} (hg : L2.Gl X x) (hm : X.mg x = some (.int i t)) (hd : (x == ("__debug__" : Str)) = false := by decide) : PX X c (.Name x pos) (eC (.int i)) :=
  px_glob (v := .int i) hg hm ⟨t, rfl⟩ (by intros; simp [Rep]) hd
/-- a pair of ints that stands in the module -/
theorem px_gtup2 {x : Str} {a : Addr} {i j : Int} {ti tj : Tok} {dd : Option Addr} {sl : Array (Option Value)} (hg : L2.Gl X x) (hm : X.mg x = some (.ref a)) (hk : X.K.lookup a = some ⟨.type "tuple", dd, .seq #[.int i ti, .int j tj] 0, sl⟩)
    (hd : (x == ("__debug__" : Str)) = false := by decide) : PX X c (.Name x pos) (eC (.tup [.int i, .int j])) :=
  px_glob (v := .ref a) hg hm rfl (by
    intros
    simp only [Rep]
    exact ⟨a, [.int i, .int j], rfl, .inr ⟨_, _, _, hk, rfl, rfl, by rw [sizeLine_eq]; exact (by decide : 2 ≤ 16777216), .cons ⟨ti, rfl⟩ (.cons ⟨tj, rfl⟩ .nil)⟩, RepL.cons (by simp [Rep]) (RepL.cons (by simp [Rep]) RepL.nil)⟩) hd

/-! ### f-strings -/
end
def jsM : List EF → Str → Env → M Str
  | [], acc, _ => M.ret acc
  | e :: es, acc, ρ => M.bind (e ρ) fun x => match x with
    | .str y => if (acc ++ y).length ≤ line then jsM es (acc ++ y) ρ else M.fail
    | _ => M.fail
/-- f'..' -/
def eJs (es : List EF) : EF := fun ρ => M.bind (jsM es Str.empty ρ) fun s => M.ret (.str s)
/-- {e} of a text or an int -/
def fmtD : D → M D
  | .str x => if x.length ≤ line then M.ret (.str x) else M.fail
  | .int i => if i.natAbs.log2 < 1920 then M.ret (.str (Str.ofString (toString i))) else M.fail
  | _ => M.fail
section
variable {K : PySem.W.Frag} {cm : Nat → Addr} {X : Cx} {c : Cfg} {pos : Pos} {e : Expr} {fe : EF} {es : List Expr} {fs : List EF}
theorem px_fmt (he : PX X c e fe) : PX X c (.FormattedValue e (-1) none pos) (eUn fmtD fe) :=
  PE.to (L2.pe_fmt he) fun σ H Q ⟨O, ρ, ph, w, h⟩ => ⟨O, ρ, ph, w, h.bind.imp fun v H1 ⟨d, ph1, w1, e1, s1, r1, h1⟩ => by
    cases d with
    | str x =>
      by_cases hl : x.length ≤ line
      · simp only [fmtD, if_pos hl] at h1
        exact .inl ⟨x, str_of r1, le_size hl, h1.ret (b := .str x) (by simp [Rep])⟩
      · simp only [fmtD, if_neg hl] at h1; exact h1.no
    | int i =>
      by_cases hl : i.natAbs.log2 < 1920
      · simp only [fmtD, if_pos hl] at h1
        exact .inr ⟨i, int_of r1, hl, h1.ret (b := .str _) (by simp [Rep])⟩
      · simp only [fmtD, if_neg hl] at h1; exact h1.no
    | _ => exact h1.no⟩
inductive PJX (X : Cx) (c : Cfg) : List Expr → List EF → Prop where
  | nil : PJX X c [] []
  | cons {e : Expr} {f : EF} {es : List Expr} {fs : List EF} (h : PX X c e f) (r : PJX X c es fs) : PJX X c (e :: es) (f :: fs)
theorem PJX.pj {es : List Expr} {fs : List EF} (h : PJX X c es fs) : L2.PJ X es (fs.map fun f => tX X.K c.cm c.xa c.Wx f) := by
  induction h with
  | nil => exact .nil
  | cons h _ ih => exact .cons h ih
theorem js_run {xa O Wx ρ σ} {Q : Str → Hp → Prop} : ∀ (fs : List EF) (acc : Str) (ph : Option Addr) (H : Hp) (w : Wd), Run K cm xa O (fun _ _ a b => a = b) Wx ρ σ ph H w (jsM fs acc ρ) Q → L2.tJs (fs.map fun f => tX K cm xa Wx f) acc σ H Q
  | [], acc, ph, H, w, h => h.ret (b := acc) rfl
  | f :: fs, acc, ph, H, w, h => ⟨O, ρ, ph, w, (Run.bind (rel := relV K cm O) h).imp fun v H1 ⟨d, ph1, w1, e1, s1, r1, h1⟩ => by
    cases d with
    | str y =>
      by_cases hl : (acc ++ y).length ≤ line
      · simp only [if_pos hl] at h1
        exact ⟨y, str_of r1, le_size hl, js_run fs (acc ++ y) ph1 H1 w1 h1⟩
      · simp only [if_neg hl] at h1; exact h1.no
    | _ => exact h1.no⟩
theorem px_js {v1 v2 : Expr} {rest : List Expr} (h : PJX X c (v1 :: v2 :: rest) fs) : PX X c (.JoinedStr (v1 :: v2 :: rest) pos) (eJs fs) :=
  PE.to (L2.pe_joined h.pj) fun σ H Q ⟨O, ρ, ph, w, h⟩ => js_run fs Str.empty ph H w ((Run.bind (rel := fun _ _ (a b : Str) => a = b) h).imp fun s H1 ⟨s', ph1, w1, e1, s1, r1, h1⟩ => by
    cases r1
    exact h1.ret (b := .str s) (by simp [Rep]))

/-! ### new lists -/
abbrev NF := Env → M (List D)
/-- an expression that makes a new list -/
def tNX (K : PySem.W.Frag) (cm : Nat → Addr) (xa : Option (Addr × Nat × Addr)) (Wx : WX) (f : NF) : TE := fun σ H Q => ∃ O ρ ph w, Run K cm xa O (relL K cm O) Wx ρ σ ph H w (f ρ) (fun vs H1 => ∀ p, H1 p = none → Q (.ref p) (upd H1 p (.lst vs)))
abbrev PNX (X : Cx) (c : Cfg) (e : Expr) (f : NF) : Prop := PE X e (tNX X.K c.cm c.xa c.Wx f)
theorem px_new {f : NF} (h : PNX X c e f) : PX X c e (fun ρ => M.bind (f ρ) fun xs => M.ret (.lst xs)) :=
  PE.to h fun σ H Q ⟨O, ρ, ph, w, h⟩ => ⟨O, ρ, ph, w, (Run.bind (rel := relL X.K c.cm O) h).imp fun vs H1 ⟨ds, ph1, w1, e1, s1, r1, h1⟩ p hp => h1.lst hp r1⟩
theorem pnx_lst (h : PAX X c es fs) (hl : fs.length ≤ 1000 := by decide) : PNX X c (.List es pos) (evs fs) :=
  PE.to (L2.pe_lst h) fun σ H Q ⟨O, ρ, ph, w, h⟩ => ⟨O, ρ, ph, w, by
    have h' : Run X.K c.cm c.xa O (relL X.K c.cm O) c.Wx ρ σ ph H w (M.bind (evs fs ρ) M.ret) (fun vs H1 => ∀ p, H1 p = none → Q (.ref p) (upd H1 p (.lst vs))) := by rw [bind_ret]; exact h
    have hb := h'.bind (rel := relL X.K c.cm O)
    refine ⟨hb.env, hb.hand, ?_⟩
    have hp := hb.post
    cases e : evs fs ρ w with
    | ok ds w1 =>
      rw [e] at hp
      intro vs H1 ph1 x1 s1 k1 r1
      obtain ⟨ds', ph1', w1', x1', s1', r1', h1⟩ := hp vs H1 ph1 x1 s1 k1 r1
      have l := evs_len _ _ _ _ e
      have l2 := r1.length
      exact ⟨by rw [sizeLine_eq]; omega, h1.ret r1'⟩
    | ex => rw [e] at hp; exact hp
    | bad => rw [e] at hp; exact hp⟩

/-! ### what a def promises -/
/-- n arguments; what it does is F -/
def spX (K : PySem.W.Frag) (cm : Nat → Addr) (n : Nat) (F : List D → M D) : L2.Sp := fun vs H Q E => vs.length = n ∧ ∃ O ds ph w, OTr H O ph ∧ HandOk K cm H O ph w ∧ RepL K cm H (OO O ph) ph ds vs ∧
  Post1 K cm O (relV K cm O) (fun cls d _ H' => E cls d H') [] ph H Q (F ds w)
theorem post_ws {K : PySem.W.Frag} {cm : Nat → Addr} {O Wx σ ph H} {Q : VK} {r : R D} (h : Post1 K cm O (relV K cm O) Wx σ ph H Q r) : Post1 K cm O (relV K cm O) (fun cls d _ H' => Wx cls d σ H') [] ph H Q r := by
  cases r <;> exact h
/-- the callee runs; its parameters' defaults fill up; what it raises is wished for at the caller's slots -/
theorem run_fnX {k : Nat} {f : Addr} {fd : FuncData} {ps : List Str} {ds : List Value} {dvs : List V} {n : Nat} {F : List D → M D} {pins : List (Addr × Obj)} {σ : St} {H : Hp} {s : Shared} {Q : VK} {us : List Value} {vs : List V}
    (G : FnOk X.prog X.w X.K X.mg X.base (L2N.CX X.prog X.w) k f fd ps (spX X.K cm n F)) (hr : Room k X.A) (hb : Binds X.K fd ps ds) (hd : Vals dvs ds) {Wx : WX} (hx : L2N.Takes X Wx)
    (I : Inv X pins σ H s) (r : Vals vs us) (h : spX X.K cm n F (vs ++ dvs) H Q (fun cls d H' => Wx cls d σ H')) : wpAny (model X.prog X.w) X.A (call (.ref f) us) (EP X pins σ Q) X.xe s := by
  have r2 : Vals (vs ++ dvs) (us ++ ds) := r.append hd
  have hl : (us ++ ds).length = ps.length := by rw [← r2.length]; exact G.len _ _ _ _ h
  refine wpAny_call (codeAny_mono (G.run X.A X.stack s H ⟨us, []⟩ (us ++ ds) (vs ++ dvs) Q _ hr I.env0 (hb s us I.kIn hl) r2 h) fun res s' hq => ?_)
  match res, hq with
  | .error e, hq => exact L2N.passAt hx σ pins H s e s' I hq
  | .ok (.ret u), hq => exact I.after hq
  | .ok .next, hq => exact False.elim hq
  | .ok .brk, hq => exact False.elim hq
  | .ok .cont, hq => exact False.elim hq
/-- f(e, ..), the other parameters by their defaults (data dds) -/
theorem px_call {x : Str} {p : Pos} {k : Nat} {f : Addr} {fd : FuncData} {ps : List Str} {ds : List Value} {dvs : List V} {dds : List D} {n : Nat} {F : List D → M D}
    (G : FnOk X.prog X.w X.K X.mg X.base (L2N.CX X.prog X.w) k f fd ps (spX X.K c.cm n F)) (hr : Room k X.A) (hx : L2N.Takes X c.Wx) (hg : L2.Gl X x) (hm : X.mg x = some (.ref f)) (hk : PySem.W.keepIn X.K (.ref f) = true) (hb : Binds X.K fd ps ds) (hd : Vals dvs ds)
    (hdd : ∀ {H N ph}, RepL X.K c.cm H N ph dds dvs) (ha : PAX X c (e :: es) fs) (hn : fs.length + dds.length = n := by rfl) (hdb : (x == ("__debug__" : Str)) = false := by decide) (he : starEach (e :: es) X.env = (false, eval e X.env) :: starEach es X.env := by rfl) (hpl : (backTo pos (starEach es X.env)).any (·.1) = false := by rfl) :
    PX X c (.Call (.Name x p) (e :: es) [] pos) (eCall (fun ds => F (ds ++ dds)) fs) := by
  refine ⟨fun pins s σ H Q I h => ?_⟩
  obtain ⟨O, ρ, ph, w, h⟩ := h
  have h1 := evs_run h
  refine wpAny_Call_Name_kw (L2.ld_glob I hg hm ?_ hdb)
  refine PySem.W.callWith_K (h₀ := X.base) I.ok.mod.kin hk (L2.thn (ha.run pos pins s σ H _ I ⟨O, ρ, ph, w, h1⟩) fun us s1 ⟨vs, H1, I1, r, ds', ph1, w1, l, rl, h2⟩ => ⟨I1.kIn, ?_⟩) he hpl
  refine run_fnX G hr hb hd hx I1 r ⟨?_, O, ds' ++ dds, ph1, w1, h2.env.tr, h2.hand, rl.append hdd, post_ws h2.post⟩
  rw [List.length_append, l, ← (hdd (H := H) (N := fun _ => False) (ph := none)).length]; exact hn
theorem px_call0 {x : Str} {p : Pos} {k : Nat} {f : Addr} {fd : FuncData} {ps : List Str} {ds : List Value} {dvs : List V} {dds : List D} {n : Nat} {F : List D → M D}
    (G : FnOk X.prog X.w X.K X.mg X.base (L2N.CX X.prog X.w) k f fd ps (spX X.K c.cm n F)) (hr : Room k X.A) (hx : L2N.Takes X c.Wx) (hg : L2.Gl X x) (hm : X.mg x = some (.ref f)) (hk : PySem.W.keepIn X.K (.ref f) = true) (hb : Binds X.K fd ps ds) (hd : Vals dvs ds)
    (hdd : ∀ {H N ph}, RepL X.K c.cm H N ph dds dvs) (hn : dds.length = n := by rfl) (hdb : (x == ("__debug__" : Str)) = false := by decide) :
    PX X c (.Call (.Name x p) [] [] pos) (eCall (fun ds => F (ds ++ dds)) []) := by
  refine ⟨fun pins s σ H Q I h => ?_⟩
  obtain ⟨O, ρ, ph, w, h⟩ := h
  refine wpAny_Call_Name_kw (L2.ld_glob I hg hm ?_ hdb)
  refine PySem.W.callWith_K0 I.kIn hk (run_fnX (us := []) (vs := []) G hr hb hd hx I .nil ⟨?_, O, dds, ph, w, h.env.tr, h.hand, hdd, post_ws h.post⟩)
  rw [List.nil_append, ← (hdd (H := H) (N := fun _ => False) (ph := none)).length]; exact hn
end
end FL

/-! F6: statements. -/
namespace FL
open PySem
open L2 (V Hp HO Cx Inv VK XK TE TT TA TS TI TG PE PT PA PS PSs PI PG Ends WX RelV Vals Rd upd upd_same upd_ne ne_of_none EP TP AP OpR R2 CallR FnOk Room Binds)

/-- the entry of a def: the heap, what its callers own, the hand -/
structure Sq where
  B : Hp
  O0 : NS
  ph0 : Option Addr
/-- what may change: what the callers own, the lists of the slots -/
def OwnS (O0 : NS) (ρ : Env) (σ : St) : NS := fun a => O0 a ∨ ∃ (i : Nat) (xs : List D), ρ[i]? = some (.own xs) ∧ σ[i]? = some (some (.ref a))
/-- the list at v, and the lists in it, are new: they do not stand in B -/
def New2 (B H : Hp) (ds : List D) (v : V) : Prop := ∃ p vs, v = .ref p ∧ B p = none ∧ H p = some (.lst vs) ∧ ∀ (i : Nat) xs, ds[i]? = some (.lst xs) → ∃ b, vs[i]? = some (.ref b) ∧ B b = none ∧ ∀ j : Nat, vs[j]? = some (.ref b) → i = j
section
variable (K : PySem.W.Frag) (cm : Nat → Addr) (xa : Option (Addr × Nat × Addr)) (q : Sq)
structure StS (ρ : Env) (ph : Option Addr) (w : Wd) (σ : St) (H : Hp) : Prop where
  env : EnvE K cm xa (OwnS q.O0 ρ σ) H ph ρ σ
  hand : HandOk K cm H (OwnS q.O0 ρ σ) ph w
  base : Ext q.ph0 q.B H
  phs : PhS q.B q.ph0 ph
  o0 : OTr q.B q.O0 q.ph0
  inj : ∀ (i j : Nat) p xs ys, ρ[i]? = some (.own xs) → ρ[j]? = some (.own ys) → σ[i]? = some (some (.ref p)) → σ[j]? = some (some (.ref p)) → i = j
  fresh : ∀ (i : Nat) p xs, ρ[i]? = some (.own xs) → σ[i]? = some (some (.ref p)) → q.B p = none
  news : ∀ (i : Nat) ds v, ρ[i]? = some (.nest ds) → σ[i]? = some (some v) → New2 q.B H ds v
/-- what is kept, and the hand stays -/
structure Kp (H : Hp) (N : NS) (ph : Option Addr) (H' : Hp) (N' : NS) (ph' : Option Addr) : Prop where
  k : Keep H N H' N'
  m : PhM ph ph'
/-- what may change at a state -/
abbrev NN (ρ : Env) (σ : St) (ph : Option Addr) : NS := OO (OwnS q.O0 ρ σ) ph
def Post2 (Wx : WX) (D : Ends) (H : Hp) (N : NS) (ph : Option Addr) : SR → Prop
  | .nx ρ' w' => ∀ σ' H' ph', StS K cm xa q ρ' ph' w' σ' H' → Kp H N ph H' (NN q ρ' σ' ph') ph' → D.nx σ' H'
  | .bk ρ' w' => ∀ σ' H' ph', StS K cm xa q ρ' ph' w' σ' H' → Kp H N ph H' (NN q ρ' σ' ph') ph' → D.bk σ' H'
  | .ct ρ' w' => ∀ σ' H' ph', StS K cm xa q ρ' ph' w' σ' H' → Kp H N ph H' (NN q ρ' σ' ph') ph' → D.ct σ' H'
  | .rt d w' => ∀ v H' ph', Ext q.ph0 q.B H' → PhS q.B q.ph0 ph' → HandOk K cm H' q.O0 ph' w' → Rep K cm H' (OO q.O0 ph') ph' d v → D.rt v H'
  | .ex c ns xs ρ' w' => ∀ σ' H' ph' dd vs, StS K cm xa q ρ' ph' w' σ' H' → Kp H N ph H' (NN q ρ' σ' ph') ph' → H' dd = some (.xd (ns.zip vs).reverse) → ns.length = vs.length → RepL K cm H' (NN q ρ' σ' ph') ph' xs vs → Wx (.ref (cm c)) (some dd) σ' H'
  | .bad => False
def tS (Wx : WX) (s : SF) : TS := fun D σ H => ∃ ρ ph w, StS K cm xa q ρ ph w σ H ∧ Post2 K cm xa q Wx D H (NN q ρ σ ph) ph (s ρ w)
end
abbrev PSX (X : Cx) (c : Cfg) (q : Sq) (st : Stmt) (s : SF) : Prop := PS X st (tS X.K c.cm c.xa q c.Wx s)
abbrev PSSX (X : Cx) (c : Cfg) (q : Sq) (st : List Stmt) (s : SF) : Prop := PSs X st (tS X.K c.cm c.xa q c.Wx s)
section
variable {K : PySem.W.Frag} {cm : Nat → Addr} {xa : Option (Addr × Nat × Addr)} {q : Sq} {ρ ρ' : Env} {σ : St} {H H' H1 H2 : Hp} {N N' N1 : NS} {ph ph' : Option Addr} {w w' : Wd} {Wx : WX} {D : Ends}
theorem Kp.refl : Kp H N ph H N ph := ⟨.refl, fun _ e => e⟩
theorem Kp.trans {ph1 ph2 : Option Addr} {N2 : NS} (x : Kp H N ph H1 N1 ph1) (y : Kp H1 N1 ph1 H2 N2 ph2) : Kp H N ph H2 N2 ph2 := ⟨x.k.trans y.k, fun p e => y.m p (x.m p e)⟩
theorem Keep.kp (k : Keep H N H1 N1) : Kp H N ph H1 N1 ph := ⟨k, fun _ e => e⟩
theorem Post2.keep {ph1 : Option Addr} {r : SR} (k : Kp H N ph H1 N1 ph1) (h : Post2 K cm xa q Wx D H N ph r) : Post2 K cm xa q Wx D H1 N1 ph1 r := by
  cases r with
  | nx ρ' w' => exact fun σ' H' ph' s k2 => h σ' H' ph' s (k.trans k2)
  | bk ρ' w' => exact fun σ' H' ph' s k2 => h σ' H' ph' s (k.trans k2)
  | ct ρ' w' => exact fun σ' H' ph' s k2 => h σ' H' ph' s (k.trans k2)
  | rt d w' => exact h
  | ex c ns xs ρ' w' => exact fun σ' H' ph' dd vs s k2 => h σ' H' ph' dd vs s (k.trans k2)
  | bad => exact h
theorem New2.keep {B : Hp} {ds : List FL.D} {v : V} (h : New2 B H ds v) (r : Rep K cm H N ph (.lst ds) v) (k : ∀ p o, ¬ N p → H p = some o → H' p = some o) : New2 B H' ds v := by
  obtain ⟨p, vs, rfl, h1, h2, h3⟩ := h
  obtain ⟨a, us, e, ⟨n, t⟩, _⟩ := lst_of r
  cases e
  exact ⟨p, vs, rfl, h1, k p _ n h2, h3⟩
theorem StS.newsK (h : StS K cm xa q ρ ph w σ H) (k : ∀ p o, ¬ NN q ρ σ ph p → H p = some o → H' p = some o) (i : Nat) (ds : List FL.D) (v : V) (e1 : ρ[i]? = some (.nest ds)) (e2 : σ[i]? = some (some v)) : New2 q.B H' ds v := by
  obtain ⟨v', e3, r⟩ := h.env.nestd e1
  rw [e2] at e3; cases e3
  exact (h.news i ds v e1 e2).keep r k
theorem StS.ext (x : Ext ph H H') (s : PhS H ph ph') (hk : HandOk K cm H' (OwnS q.O0 ρ σ) ph' w') (h : StS K cm xa q ρ ph w σ H) : StS K cm xa q ρ ph' w' σ H' :=
  ⟨h.env.ext x s, hk, h.base.trans h.phs x, PhS.trans h.base h.phs s, h.o0, h.inj, h.fresh, h.newsK fun p o n e => x p o (fun z => n (.inr z)) e⟩
/-- an expression's run within a statement -/
theorem onE_run {α β : Type} {rel : Hp → Option Addr → α → β → Prop} {m : M α} {k : α → Wd → SR} (h : StS K cm xa q ρ ph w σ H) (hp : Post2 K cm xa q Wx D H (NN q ρ σ ph) ph (onE m ρ w k)) :
    Run K cm xa (OwnS q.O0 ρ σ) rel Wx ρ σ ph H w m (fun b H1 => ∃ a ph1 w1, rel H1 ph1 a b ∧ StS K cm xa q ρ ph1 w1 σ H1 ∧ Kp H (NN q ρ σ ph) ph H1 (NN q ρ σ ph1) ph1 ∧ Post2 K cm xa q Wx D H1 (NN q ρ σ ph1) ph1 (k a w1)) := by
  refine ⟨h.env, h.hand, ?_⟩
  unfold onE at hp
  cases e : m w with
  | ok a w1 =>
    rw [e] at hp
    intro b H1 ph1 x s hk r
    have kk : Kp H (NN q ρ σ ph) ph H1 (NN q ρ σ ph1) ph1 := ⟨Ext.keep x s, s.m⟩
    exact ⟨a, ph1, w1, r, h.ext x s hk, kk, hp.keep kk⟩
  | ex c ns xs w1 =>
    rw [e] at hp
    intro dd H1 ph1 vs x s hk hd l r
    exact hp σ H1 ph1 dd vs (h.ext x s hk) ⟨Ext.keep x s, s.m⟩ hd l r
  | bad => rw [e] at hp; exact hp

/-! setting slots -/
theorem get_set_or {α : Type} {l : List α} {i j : Nat} {x y : α} (h : (l.set i x)[j]? = some y) : (i = j ∧ y = x) ∨ (i ≠ j ∧ l[j]? = some y) := by
  by_cases e : i = j
  · subst e
    by_cases hi : i < l.length
    · rw [List.getElem?_set_self hi] at h; cases h; exact .inl ⟨rfl, rfl⟩
    · rw [List.getElem?_eq_none (by simpa using hi)] at h; cases h
  · rw [List.getElem?_set_ne e] at h; exact .inr ⟨e, h⟩
theorem own_set {O0 : NS} {i : Nat} {s : Slot} {x : Option V} (hs : ∀ xs, s ≠ .own xs) {a : Addr} (h : OwnS O0 (ρ.set i s) (σ.set i x) a) : OwnS O0 ρ σ a := by
  rcases h with h | ⟨j, xs, h1, h2⟩
  · exact .inl h
  · rcases get_set_or h1 with ⟨e, e2⟩ | ⟨e, e2⟩
    · exact absurd e2.symm (hs xs)
    · rw [List.getElem?_set_ne e] at h2
      exact .inr ⟨j, xs, e2, h2⟩
theorem OO.mono {O O' : NS} (h : ∀ a, O a → O' a) : ∀ a, OO O ph a → OO O' ph a := fun a x => x.elim (fun y => .inl (h a y)) .inr
theorem Keep.less (h : ∀ a, N' a → N a) : Keep H N H N' := ⟨fun _ _ _ e => e, fun b _ _ n => h b n⟩
theorem OTr.less {O O' : NS} (h : ∀ a, O' a → O a) (t : OTr H O ph) : OTr H O' ph := fun a o => t a (h a o)
theorem HandOk.less {O O' : NS} (h : ∀ a, O' a → O a) (t : HandOk K cm H O ph w) : HandOk K cm H O' ph w := t.keep (Keep.less (OO.mono h)) fun _ _ _ e => e
/-- a slot gets a value, or is emptied -/
theorem StS.setvn {i : Nat} {s : Slot} {x : Option V} (hs : ∀ xs, s ≠ .own xs) (hn : ∀ ds v, s = .nest ds → x = some v → New2 q.B H ds v) (r : SlotR K cm xa (OwnS q.O0 ρ σ) H ph s x) (h : StS K cm xa q ρ ph w σ H) : StS K cm xa q (ρ.set i s) ph w (σ.set i x) H := by
  have lo : ∀ a, OwnS q.O0 (ρ.set i s) (σ.set i x) a → OwnS q.O0 ρ σ a := fun a => own_set hs
  have kk : Keep H (NN q ρ σ ph) H (NN q (ρ.set i s) (σ.set i x) ph) := Keep.less (OO.mono lo)
  refine ⟨⟨by simp [h.env.len], fun j sl v e1 e2 => ?_, h.env.tr.less lo⟩, h.hand.less lo, h.base, h.phs, h.o0, ?_, ?_, ?_⟩
  · rcases get_set_or e1 with ⟨e, e3⟩ | ⟨e, e3⟩
    · subst e
      subst e3
      have hj : i < σ.length := by
        have := (List.getElem?_eq_some_iff.mp e2).1
        simpa using this
      rw [List.getElem?_set_self hj] at e2
      cases e2
      exact r.keep kk (fun _ e => e) fun ds p e => absurd e (hs ds)
    · rw [List.getElem?_set_ne e] at e2
      refine (h.env.at_ j sl v e3 e2).keep kk (fun _ e => e) fun ds p hsl hv _ => ⟨.inr ⟨j, ds, ?_, ?_⟩, fun _ e => e⟩
      · rw [List.getElem?_set_ne e, e3, hsl]
      · rw [List.getElem?_set_ne e, e2, hv]
  · intro j k p xs ys h1 h2 h3 h4
    rcases get_set_or h1 with ⟨_, e3⟩ | ⟨n1, e3⟩
    · exact absurd e3.symm (hs xs)
    · rcases get_set_or h2 with ⟨_, e4⟩ | ⟨n2, e4⟩
      · exact absurd e4.symm (hs ys)
      · rw [List.getElem?_set_ne n1] at h3
        rw [List.getElem?_set_ne n2] at h4
        exact h.inj j k p xs ys e3 e4 h3 h4
  · intro j p xs h1 h3
    rcases get_set_or h1 with ⟨_, e3⟩ | ⟨n1, e3⟩
    · exact absurd e3.symm (hs xs)
    · rw [List.getElem?_set_ne n1] at h3
      exact h.fresh j p xs e3 h3
  · intro j ds v h1 h3
    rcases get_set_or h1 with ⟨n1, e3⟩ | ⟨n1, e3⟩
    · subst n1
      have hj : i < σ.length := by
        have := (List.getElem?_eq_some_iff.mp h3).1
        simpa using this
      rw [List.getElem?_set_self hj] at h3
      exact hn ds v e3.symm (Option.some.inj h3)
    · rw [List.getElem?_set_ne n1] at h3
      exact h.news j ds v e3 h3
theorem StS.setv {i : Nat} {s : Slot} {x : Option V} (hs : ∀ xs, s ≠ .own xs) (r : SlotR K cm xa (OwnS q.O0 ρ σ) H ph s x) (h : StS K cm xa q ρ ph w σ H) (hn : ∀ ds, s ≠ .nest ds := by intro _ z; cases z) : StS K cm xa q (ρ.set i s) ph w (σ.set i x) H := h.setvn hs (fun ds _ e => absurd e (hn ds)) r
theorem StS.setd {i : Nat} {d : FL.D} {v : V} (r : Rep K cm H (NN q ρ σ ph) ph d v) (h : StS K cm xa q ρ ph w σ H) : StS K cm xa q (ρ.set i (.val d)) ph w (σ.set i (some v)) H := h.setv (fun _ e => by cases e) ⟨v, rfl, r⟩
theorem keep_set {i : Nat} {s : Slot} {x : Option V} (hs : ∀ xs, s ≠ .own xs) : Keep H (NN q ρ σ ph) H (NN q (ρ.set i s) (σ.set i x) ph) := Keep.less (OO.mono fun _ => own_set hs)
/-- a slot gets a new list -/
theorem StS.seto {i : Nat} {ds : List FL.D} {vs : List V} {p : Addr} (hi : i < ρ.length) (hp : H p = none) (r : RepL K cm H (NN q ρ σ ph) ph ds vs) (h : StS K cm xa q ρ ph w σ H) :
    StS K cm xa q (ρ.set i (.own ds)) ph w (σ.set i (some (.ref p))) (upd H p (.lst vs)) ∧ Keep H (NN q ρ σ ph) (upd H p (.lst vs)) (NN q (ρ.set i (.own ds)) (σ.set i (some (.ref p))) ph) := by
  have hiσ : i < σ.length := by rw [h.env.len]; exact hi
  have lo : ∀ a, OwnS q.O0 (ρ.set i (.own ds)) (σ.set i (some (.ref p))) a → a = p ∨ OwnS q.O0 ρ σ a := fun a x => by
    rcases x with x | ⟨j, xs, h1, h2⟩
    · exact .inr (.inl x)
    · rcases get_set_or h1 with ⟨e, _⟩ | ⟨e, e2⟩
      · subst e
        rw [List.getElem?_set_self hiσ] at h2
        cases h2; exact .inl rfl
      · rw [List.getElem?_set_ne e] at h2
        exact .inr (.inr ⟨j, xs, e2, h2⟩)
  have np : ∀ a, OwnS q.O0 ρ σ a → a ≠ p := fun a o e => by
    obtain ⟨_, vs, z, _⟩ := h.env.tr a o
    rw [e, hp] at z; cases z
  have nph : ph ≠ some p := fun e => by
    obtain ⟨vs, z⟩ := h.hand.tr e
    rw [hp] at z; cases z
  have kk : Keep H (NN q ρ σ ph) (upd H p (.lst vs)) (NN q (ρ.set i (.own ds)) (σ.set i (some (.ref p))) ph) := by
    refine ⟨fun b o _ e => by rw [upd_ne (ne_of_none e hp)]; exact e, fun b o e x => ?_⟩
    rcases x with x | x
    · rcases lo b x with z | z
      · rw [z, hp] at e; cases e
      · exact .inl z
    · exact .inr x
  have Bp : q.B p = none := by
    cases e : q.B p with
    | none => rfl
    | some o =>
      by_cases z : q.ph0 = some p
      · rcases h.phs with y | ⟨y, _⟩
        · exact absurd (y.trans z) nph
        · rw [y] at z; cases z
      · rw [h.base p o z e] at hp; cases hp
  refine ⟨⟨⟨by simp [h.env.len], fun j sl v e1 e2 => ?_, fun a o => ?_⟩, ?_, fun b o n e => ?_, h.phs, h.o0, ?_, ?_, ?_⟩, kk⟩
  · rcases get_set_or e1 with ⟨e, e3⟩ | ⟨e, e3⟩
    · subst e
      subst e3
      rw [List.getElem?_set_self hiσ] at e2
      cases e2
      exact ⟨p, vs, rfl, .inr ⟨i, ds, List.getElem?_set_self hi, List.getElem?_set_self hiσ⟩, upd_same, r.keep kk (fun _ e => e) ds vs⟩
    · rw [List.getElem?_set_ne e] at e2
      refine (h.env.at_ j sl v e3 e2).keep kk (fun _ e => e) fun ds' p' hsl hv o => ⟨.inr ⟨j, ds', ?_, ?_⟩, fun u z => by rw [upd_ne (np p' o)]; exact z⟩
      · rw [List.getElem?_set_ne e, e3, hsl]
      · rw [List.getElem?_set_ne e, e2, hv]
  · rcases lo a o with z | z
    · subst z; exact ⟨nph, _, upd_same, .lst vs⟩
    · obtain ⟨y, ws, e, k⟩ := h.env.tr a z
      exact ⟨y, ws, by rw [upd_ne (np a z)]; exact e, k⟩
  · exact h.hand.keep kk fun p' e u z => by rw [upd_ne (ne_of_none z hp)]; exact z
  · rw [upd_ne (ne_of_none (h.base b o n e) hp)]; exact h.base b o n e
  · intro j k p' xs ys h1 h2 h3 h4
    rcases get_set_or h1 with ⟨a1, _⟩ | ⟨n1, e3⟩
    · rcases get_set_or h2 with ⟨a2, _⟩ | ⟨n2, e4⟩
      · exact a1.symm.trans a2
      · subst a1
        rw [List.getElem?_set_self hiσ] at h3
        rw [List.getElem?_set_ne n2] at h4
        cases h3
        exact absurd rfl (np p (.inr ⟨k, ys, e4, h4⟩))
    · rcases get_set_or h2 with ⟨a2, _⟩ | ⟨n2, e4⟩
      · subst a2
        rw [List.getElem?_set_self hiσ] at h4
        rw [List.getElem?_set_ne n1] at h3
        cases h4
        exact absurd rfl (np p (.inr ⟨j, xs, e3, h3⟩))
      · rw [List.getElem?_set_ne n1] at h3
        rw [List.getElem?_set_ne n2] at h4
        exact h.inj j k p' xs ys e3 e4 h3 h4
  · intro j p' xs h1 h3
    rcases get_set_or h1 with ⟨a1, _⟩ | ⟨n1, e3⟩
    · subst a1
      rw [List.getElem?_set_self hiσ] at h3
      cases h3; exact Bp
    · rw [List.getElem?_set_ne n1] at h3
      exact h.fresh j p' xs e3 h3
  · intro j es v h1 h3
    rcases get_set_or h1 with ⟨_, e3⟩ | ⟨n1, e3⟩
    · cases e3
    · rw [List.getElem?_set_ne n1] at h3
      exact h.newsK (fun b o _ e => by rw [upd_ne (ne_of_none e hp)]; exact e) j es v e3 h3
/-- the list of a slot is changed -/
theorem StS.chg {i : Nat} {ds es : List FL.D} {ws : List V} (e0 : ρ[i]? = some (.own ds)) {p : Addr} (e1 : σ[i]? = some (some (.ref p))) (r : RepL K cm H (NN q ρ σ ph) ph es ws) (h : StS K cm xa q ρ ph w σ H) :
    StS K cm xa q (ρ.set i (.own es)) ph w σ (upd H p (.lst ws)) ∧ Keep H (NN q ρ σ ph) (upd H p (.lst ws)) (NN q (ρ.set i (.own es)) σ ph) := by
  have hi : i < ρ.length := (List.getElem?_eq_some_iff.mp e0).1
  have op : OwnS q.O0 ρ σ p := .inr ⟨i, ds, e0, e1⟩
  have so : ∀ a, OwnS q.O0 (ρ.set i (.own es)) σ a → OwnS q.O0 ρ σ a := fun a x => by
    rcases x with x | ⟨j, xs, h1, h2⟩
    · exact .inl x
    · rcases get_set_or h1 with ⟨e, _⟩ | ⟨e, e2⟩
      · subst e; exact .inr ⟨i, ds, e0, h2⟩
      · exact .inr ⟨j, xs, e2, h2⟩
  have os : ∀ a, OwnS q.O0 ρ σ a → OwnS q.O0 (ρ.set i (.own es)) σ a := fun a x => by
    rcases x with x | ⟨j, xs, h1, h2⟩
    · exact .inl x
    · by_cases e : i = j
      · subst e; exact .inr ⟨i, es, List.getElem?_set_self hi, h2⟩
      · exact .inr ⟨j, xs, by rw [List.getElem?_set_ne e]; exact h1, h2⟩
  have nph : ph ≠ some p := (h.env.tr p op).1
  have Bp : q.B p = none := h.fresh i p ds e0 e1
  have kk : Keep H (NN q ρ σ ph) (upd H p (.lst ws)) (NN q (ρ.set i (.own es)) σ ph) :=
    ⟨fun b o n e => by rw [upd_ne (fun (z : b = p) => n (.inl (by rw [z]; exact op)))]; exact e, fun b o e x => x.elim (fun y => .inl (so b y)) .inr⟩
  refine ⟨⟨⟨by simp [h.env.len], fun j sl v e2 e3 => ?_, fun a o => ?_⟩, ?_, fun b o n e => ?_, h.phs, h.o0, ?_, ?_, ?_⟩, kk⟩
  · rcases get_set_or e2 with ⟨e, e4⟩ | ⟨e, e4⟩
    · subst e
      subst e4
      rw [e1] at e3; cases e3
      exact ⟨p, ws, rfl, os p op, upd_same, r.keep kk (fun _ e => e) es ws⟩
    · refine (h.env.at_ j sl v e4 e3).keep kk (fun _ e => e) fun ds' p' hsl hv o => ⟨os p' o, fun u z => ?_⟩
      rw [upd_ne (fun z' => ?_)]
      · exact z
      · subst z'
        exact e (h.inj i j p' ds ds' e0 (by rw [e4, hsl]) e1 (by rw [e3, hv]))
  · obtain ⟨y, us, e, k⟩ := h.env.tr a (so a o)
    refine ⟨y, ?_⟩
    by_cases z : a = p
    · subst z; exact ⟨_, upd_same, .lst ws⟩
    · exact ⟨us, by rw [upd_ne z]; exact e, k⟩
  · exact h.hand.keep kk fun p' e u z => by rw [upd_ne (fun z' => nph (by rw [← z']; exact e))]; exact z
  · rw [upd_ne (fun z => by rw [z, Bp] at e; cases e)]; exact h.base b o n e
  · intro j k p' xs ys h1 h2 h3 h4
    have gj : ∃ xs', ρ[j]? = some (.own xs') := by
      rcases get_set_or h1 with ⟨a, _⟩ | ⟨_, a⟩
      · subst a; exact ⟨ds, e0⟩
      · exact ⟨xs, a⟩
    have gk : ∃ xs', ρ[k]? = some (.own xs') := by
      rcases get_set_or h2 with ⟨a, _⟩ | ⟨_, a⟩
      · subst a; exact ⟨ds, e0⟩
      · exact ⟨ys, a⟩
    obtain ⟨x1, g1⟩ := gj
    obtain ⟨x2, g2⟩ := gk
    exact h.inj j k p' x1 x2 g1 g2 h3 h4
  · intro j p' xs h1 h3
    rcases get_set_or h1 with ⟨a, _⟩ | ⟨_, a⟩
    · subst a; exact h.fresh i p' ds e0 h3
    · exact h.fresh j p' xs a h3
  · intro j es' v h1 h3
    rcases get_set_or h1 with ⟨_, a⟩ | ⟨_, a⟩
    · cases a
    · exact h.newsK (fun b o n e => by rw [upd_ne (fun (z : b = p) => n (.inl (by rw [z]; exact op)))]; exact e) j es' v a h3
end

/-! ### the rules -/
section
variable {X : Cx} {c : Cfg} {q : Sq} {pos : Pos} {e : Expr} {fe : EF} {st : Stmt} {sts : List Stmt} {s t : SF}
theorem pssx_nil : PSSX X c q [] sNext := PSs.to L2.pss_nil fun D σ H ⟨ρ, ph, w, h, hp⟩ => hp σ H ph h .refl
theorem seq_to : ∀ D σ H, tS X.K c.cm c.xa q c.Wx (sSeq s t) D σ H → L2.tSeq (tS X.K c.cm c.xa q c.Wx s) (tS X.K c.cm c.xa q c.Wx t) D σ H := fun D σ H ⟨ρ, ph, w, h, hp⟩ => by
  refine ⟨ρ, ph, w, h, ?_⟩
  unfold sSeq at hp
  cases er : s ρ w with
  | nx ρ' w' =>
    rw [er] at hp
    exact fun σ' H' ph' h2 k => ⟨ρ', ph', w', h2, hp.keep k⟩
  | rt d w' => rw [er] at hp; exact hp
  | bk ρ' w' => rw [er] at hp; exact hp
  | ct ρ' w' => rw [er] at hp; exact hp
  | ex c ns xs ρ' w' => rw [er] at hp; exact hp
  | bad => rw [er] at hp; exact hp
theorem pssx_cons (h1 : PSX X c q st s) (h2 : PSSX X c q sts t) : PSSX X c q (st :: sts) (sSeq s t) := PSs.to (L2.pss_cons h1 h2) seq_to
theorem pssx_one (h1 : PSX X c q st s) : PSSX X c q [st] s := L2.pss_one h1
/-- from here on the list of slot i is as others -/
theorem pssx_frz (i : Nat) (h : PSSX X c q sts t) : PSSX X c q sts (sSeq (sFrz i) t) := PSs.to h fun D σ H ⟨ρ, ph, w, h, hp⟩ => by
  unfold sSeq sFrz at hp
  cases e : ρ[i]? with
  | none => rw [e] at hp; exact (show False from hp).elim
  | some sl =>
    rw [e] at hp
    cases sl with
    | own xs =>
      obtain ⟨p, vs, e1, o, hv, r⟩ := h.env.ownd e
      have hi : i < ρ.length := (List.getElem?_eq_some_iff.mp e).1
      have hiσ : i < σ.length := by rw [h.env.len]; exact hi
      have es : σ.set i (some (.ref p)) = σ := by
        apply List.ext_getElem?
        intro j
        by_cases hj : i = j
        · subst hj; rw [List.getElem?_set_self hiσ, e1]
        · rw [List.getElem?_set_ne hj]
      have kk : Keep H (NN q ρ σ ph) H (NN q (ρ.set i (.val (.lst xs))) (σ.set i (some (.ref p))) ph) := keep_set fun _ z => by cases z
      -- p is not of the new state's own
      have np : ¬ NN q (ρ.set i (.val (.lst xs))) (σ.set i (some (.ref p))) ph p := fun z => by
        rcases z with (z | ⟨j, ys, h1, h2⟩) | z
        · obtain ⟨_, us, z, _⟩ := h.o0 p z
          rw [h.fresh i p xs e e1] at z; cases z
        · rcases get_set_or h1 with ⟨_, a⟩ | ⟨n, a⟩
          · cases a
          · rw [es] at h2
            exact n (h.inj i j p xs ys e a e1 h2)
        · exact (h.env.tr p o).1 z
      have h2 : StS X.K c.cm c.xa q (ρ.set i .none) ph w (σ.set i (some (.ref p))) H := h.setv (s := .none) (fun _ z => by cases z) trivial
      have lo : ∀ a, NN q (ρ.set i .none) (σ.set i (some (.ref p))) ph a → NN q (ρ.set i (.val (.lst xs))) (σ.set i (some (.ref p))) ph a := fun a z => by
        rcases z with (z | ⟨j, ys, h1, h2⟩) | z
        · exact .inl (.inl z)
        · rcases get_set_or h1 with ⟨_, a⟩ | ⟨n, a⟩
          · cases a
          · exact .inl (.inr ⟨j, ys, by rw [List.getElem?_set_ne n]; exact a, h2⟩)
        · exact .inr z
      have lo2 : ∀ a, NN q (ρ.set i (.val (.lst xs))) (σ.set i (some (.ref p))) ph a → NN q (ρ.set i .none) (σ.set i (some (.ref p))) ph a := fun a z => by
        rcases z with (z | ⟨j, ys, h1, h2⟩) | z
        · exact .inl (.inl z)
        · rcases get_set_or h1 with ⟨_, a⟩ | ⟨n, a⟩
          · cases a
          · exact .inl (.inr ⟨j, ys, by rw [List.getElem?_set_ne n]; exact a, h2⟩)
        · exact .inr z
      have h3 := h2.setd (i := i) (d := .lst xs) (v := .ref p) (by
        simp only [Rep]
        exact ⟨p, vs, rfl, ⟨fun z => np (lo p z), hv⟩, r.keep (kk.trans (Keep.less lo)) (fun _ e => e) xs vs⟩)
      rw [List.set_set, List.set_set, es] at h3
      rw [es] at kk
      exact ⟨_, ph, w, h3, hp.keep kk.kp⟩
    | _ => exact (show False from hp).elim
theorem psx_expr (he : PX X c e fe) (hs : swapsWith e none pos.line X.env = pure false := by rfl) : PSX X c q (.Expr e pos) (sExpr fe) :=
  PS.to (L2.ps_expr he hs) fun D σ H ⟨ρ, ph, w, h, hp⟩ => ⟨_, ρ, ph, w, (onE_run h hp).imp fun v H1 ⟨d, ph1, w1, r, h1, k, hp1⟩ => hp1 σ H1 ph1 h1 .refl⟩
theorem psx_set {i : Nat} {x : Str} {pos' : Pos} (hN : X.N.Nodup) (hi : X.N[i]? = some x) (hx : L2.Loc X.env.scope x) (he : PX X c e fe) (hs : swapsWith e (some (.Name x pos')) pos.line X.env = pure false := by rfl) (hf : X.fn x = true ∨ X.env.scope.names.lookup x = some .local := by first | exact .inl rfl | exact .inr rfl | assumption) :
    PSX X c q (.Assign [.Name x pos'] e pos) (sSet i fe) :=
  PS.to (L2.ps_set hN hi hx he hs hf) fun D σ H ⟨ρ, ph, w, h, hp⟩ => ⟨_, ρ, ph, w, (onE_run h hp).imp fun v H1 ⟨d, ph1, w1, r, h1, k, hp1⟩ => hp1 _ H1 ph1 (h1.setd r) (keep_set fun _ z => by cases z).kp⟩
theorem psx_own {i : Nat} {x : Str} {pos' : Pos} {f : NF} (hN : X.N.Nodup) (hi : X.N[i]? = some x) (hx : L2.Loc X.env.scope x) (he : PNX X c e f) (hs : swapsWith e (some (.Name x pos')) pos.line X.env = pure false := by rfl) (hf : X.fn x = true ∨ X.env.scope.names.lookup x = some .local := by first | exact .inl rfl | exact .inr rfl | assumption) :
    PSX X c q (.Assign [.Name x pos'] e pos) (sOwn i f) :=
  PS.to (L2.ps_set hN hi hx he hs hf) fun D σ H ⟨ρ, ph, w, h, hp⟩ => ⟨_, ρ, ph, w, (onE_run h hp).imp fun vs H1 ⟨ds, ph1, w1, r, h1, k, hp1⟩ p hpn => by
    by_cases hl : i < ρ.length
    · obtain ⟨h2, k2⟩ := h1.seto hl hpn r
      exact hp1 _ _ ph1 h2 k2.kp
    · have e1 : ρ.set i (.own ds) = ρ := List.set_eq_of_length_le (by omega)
      have e2 : σ.set i (some (.ref p)) = σ := List.set_eq_of_length_le (by rw [h.env.len]; omega)
      show D.nx (σ.set i (some (.ref p))) _
      have hp1' : Post2 X.K c.cm c.xa q c.Wx D H1 (NN q ρ σ ph1) ph1 (.nx ρ w1) := by
        have z := hp1
        show Post2 X.K c.cm c.xa q c.Wx D H1 (NN q ρ σ ph1) ph1 (.nx ρ w1)
        have e3 : SR.nx (ρ.set i (.own ds)) w1 = SR.nx ρ w1 := by rw [e1]
        rw [← e3]; exact z
      rw [e2]
      exact hp1' σ _ ph1 (h1.ext (ext_new hpn) .refl (h1.hand.new hpn)) (Ext.keep (ext_new hpn) .refl).kp⟩
theorem psx_ret (he : PX X c e fe) : PSX X c q (.Return (some e) pos) (sRet fe) :=
  PS.to (L2.ps_ret he) fun D σ H ⟨ρ, ph, w, h, hp⟩ => ⟨_, ρ, ph, w, (onE_run h hp).imp fun v H1 ⟨d, ph1, w1, r, h1, k, hp1⟩ =>
    hp1 v H1 ph1 h1.base h1.phs (h1.hand.less fun _ z => .inl z) (r.keep (Keep.less (OO.mono fun _ z => .inl z)) (fun _ e => e) d v)⟩
theorem psx_retN : PSX X c q (.Return none pos) sRetN := PS.to L2.ps_retN fun D σ H ⟨ρ, ph, w, h, hp⟩ => hp .non H ph h.base h.phs (h.hand.less fun _ z => .inl z) (by simp [Rep])
/-- return of a list of the def's own -/
theorem psx_retOwn (i : Nat) {x : Str} {p0 : Pos} (hN : X.N[i]? = some x := by rfl) (hv : L2.Vis X.env.scope x := by first | exact Or.inl rfl | exact Or.inr (Or.inl rfl) | exact Or.inr (Or.inr rfl)) (hd : (x == ("__debug__" : Str)) = false := by decide)
    (hcd : (x == ("__classdict__" : Str)) = false := by decide) : PSX X c q (.Return (some (.Name x p0)) pos) (sRetOwn i) :=
  PS.to (L2.ps_ret (L2.pe_var hN hv hd hcd)) fun D σ H ⟨ρ, ph, w, h, hp⟩ => by
    unfold sRetOwn at hp
    cases e : ρ[i]? with
    | none => rw [e] at hp; exact (show False from hp).elim
    | some sl =>
      rw [e] at hp
      cases sl with
      | own xs =>
        obtain ⟨p, vs, e1, o, hv, r⟩ := h.env.ownd e
        refine ⟨.ref p, e1, hp (.ref p) H ph h.base h.phs (h.hand.less fun _ z => .inl z) ?_⟩
        simp only [Rep]
        refine ⟨p, vs, rfl, ⟨fun z => ?_, hv⟩, r.keep (Keep.less (OO.mono fun _ z => .inl z)) (fun _ e => e) xs vs⟩
        rcases z with z | z
        · obtain ⟨_, us, z, _⟩ := h.o0 p z
          rw [h.fresh i p xs e e1] at z; cases z
        · exact (h.env.tr p o).1 z
      | _ => exact (show False from hp).elim
theorem psx_if {ta : TF} {b1 b2 : List Stmt} {e1 : Expr} (ht : PTX X c e1 ta) (ha : PSSX X c q b1 s) (hb : PSSX X c q b2 t) : PSX X c q (.If e1 b1 b2 pos) (sIf ta s t) :=
  PS.to (L2.ps_if ht ha hb) fun D σ H ⟨ρ, ph, w, h, hp⟩ => ⟨_, ρ, ph, w, (onE_run (rel := relB) h hp).imp fun b H1 ⟨d, ph1, w1, r, h1, k, hp1⟩ => by
    cases r
    cases b with
    | true => exact ⟨ρ, ph1, w1, h1, hp1⟩
    | false => exact ⟨ρ, ph1, w1, h1, hp1⟩⟩
theorem psx_brk : PSX X c q (.Break pos) sBrk := PS.to L2.ps_break fun D σ H ⟨ρ, ph, w, h, hp⟩ => hp σ H ph h .refl
theorem psx_cnt : PSX X c q (.Continue pos) sCnt := PS.to L2.ps_continue fun D σ H ⟨ρ, ph, w, h, hp⟩ => hp σ H ph h .refl
theorem psx_pass : PSX X c q (.Pass pos) sNext := PS.to L2.ps_pass fun D σ H ⟨ρ, ph, w, h, hp⟩ => hp σ H ph h .refl
/-- x.append(e), x a list of the def's own -/
theorem psx_app (i : Nat) {x : Str} {p0 p1 p2 : Pos} (he : PX X c e fe) (hN : X.N[i]? = some x := by rfl) (hv : L2.Vis X.env.scope x := by first | exact Or.inl rfl | exact Or.inr (Or.inl rfl) | exact Or.inr (Or.inr rfl)) (hd : (x == ("__debug__" : Str)) = false := by decide)
    (hcd : (x == ("__classdict__" : Str)) = false := by decide) (hst : starEach (e :: []) X.env = (false, eval e X.env) :: starEach [] X.env := by rfl) (hs : swapsWith (.Call (.Attribute (.Name x p0) "append" p1) [e] [] p2) none pos.line X.env = pure false := by rfl)
    (hpl : (backTo p2 (starEach [] X.env)).any (·.1) = false := by rfl)
    (hc : PE X (.Call (.Attribute (.Name x p0) "append" p1) [e] [] p2) (L2.tBM X.K "list" L2.rAppend (L2.tVar i) (L2.tCons (tX X.K c.cm c.xa c.Wx fe) L2.tNil))) : PSX X c q (.Expr (.Call (.Attribute (.Name x p0) "append" p1) [e] [] p2) pos) (sApp i fe) :=
  PS.to (L2.ps_expr hc hs) fun D σ H ⟨ρ, ph, w, h, hp⟩ => by
    unfold sApp at hp
    cases e0 : ρ[i]? with
    | none => rw [e0] at hp; exact (show False from hp).elim
    | some sl =>
      rw [e0] at hp
      cases sl with
      | own xs =>
        obtain ⟨p, vs, e1, o, hv, r⟩ := h.env.ownd e0
        refine ⟨.ref p, e1, .inl ⟨rfl, vs, .inl (.inl hv)⟩, _, ρ, ph, w, (onE_run h hp).imp fun v H1 ⟨d, ph1, w1, rd, h1, k, hp1⟩ => ?_⟩
        obtain ⟨p', vs', e1', o', hv', r'⟩ := h1.env.ownd e0
        rw [e1] at e1'; cases e1'
        by_cases hl : xs.length < line
        · simp only [if_pos hl] at hp1
          obtain ⟨h2, k2⟩ := h1.chg e0 e1 (r'.append (RepL.one rd))
          exact ⟨p, vs', v, rfl, rfl, hv', by rw [sizeLine_eq, ← r'.length]; exact hl, hp1 σ _ ph1 h2 k2.kp⟩
        · simp only [if_neg hl] at hp1
          exact (show False from hp1).elim
      | _ => exact (show False from hp).elim
end
end FL

/-! F7: targets, iterators, loops, comprehensions. -/
namespace FL
open PySem
open L2 (V Hp HO Cx Inv VK XK TE TT TA TS TI TG PE PT PA PS PSs PI PG Ends WX RelV Vals Rd upd upd_same upd_ne ne_of_none EP TP AP OpR R2 CallR FnOk Room Binds It Walk)

/-! ### targets -/
abbrev Put := Nat × D × V
def putE (ts : List Put) (ρ : Env) : Env := ts.foldl (fun ρ t => ρ.set t.1 (.val t.2.1)) ρ
def putS (ts : List Put) (σ : St) : St := ts.foldl (fun σ t => σ.set t.1 (some t.2.2)) σ
/-- the target takes what g says; its slots are is -/
def TGX (K : PySem.W.Frag) (cm : Nat → Addr) (g : GF) (tg : TG) (is : List Nat) : Prop := ∀ {H N ph d v ρ ρ'}, Rep K cm H N ph d v → g d ρ = some ρ' →
  ∃ ts : List Put, ρ' = putE ts ρ ∧ (∀ t ∈ ts, t.1 ∈ is ∧ Rep K cm H N ph t.2.1 t.2.2) ∧ ∀ (σ : St) (Q : St → Hp → Prop), Q (putS ts σ) H → tg v σ H Q
section
variable {K : PySem.W.Frag} {cm : Nat → Addr} {xa : Option (Addr × Nat × Addr)} {O O' : NS} {X : Cx} {c : Cfg} {q : Sq} {H H' H1 : Hp} {N : NS} {ph ph' : Option Addr} {ρ ρ' : Env} {σ : St} {w w' : Wd} {pos : Pos}
theorem tgx_n (i : Nat) : TGX K cm (gN i) (L2.gName i) [i] := fun {H N ph d v ρ ρ'} r e => by
  cases e
  exact ⟨[(i, d, v)], rfl, fun t ht => by simp at ht; subst ht; exact ⟨by simp, r⟩, fun σ Q h => h⟩
def gNames : List Nat → L2.TGs
  | [] => L2.gNil
  | i :: is => L2.gCons (L2.gName i) (gNames is)
theorem gAll_put : ∀ (is : List Nat) (ds : List D) (vs : List V) (ρ ρ' : Env), RepL K cm H N ph ds vs → gAll is ds ρ = some ρ' →
    vs.length = is.length ∧ ∃ ts : List Put, ρ' = putE ts ρ ∧ (∀ t ∈ ts, t.1 ∈ is ∧ Rep K cm H N ph t.2.1 t.2.2) ∧ ∀ (σ : St) (Q : St → Hp → Prop), Q (putS ts σ) H → gNames is vs σ H Q
  | [], [], vs, ρ, ρ', r, e => by
    cases e; cases r.unnil
    exact ⟨rfl, [], rfl, fun t ht => by simp at ht, fun σ Q h => ⟨rfl, h⟩⟩
  | i :: is, d :: ds, vs, ρ, ρ', r, e => by
    obtain ⟨v, vs', rfl, r1, r2⟩ := r.uncons
    obtain ⟨l, ts, e1, ht, hq⟩ := gAll_put is ds vs' _ ρ' r2 e
    refine ⟨by simp [l], (i, d, v) :: ts, e1, fun t h => ?_, fun σ Q h => ⟨v, vs', rfl, hq (σ.set i (some v)) Q h⟩⟩
    rcases List.mem_cons.mp h with rfl | h
    · exact ⟨by simp, r1⟩
    · exact ⟨List.mem_cons_of_mem _ (ht t h).1, (ht t h).2⟩
  | [], _ :: _, _, _, _, _, e => by cases e
  | _ :: _, [], _, _, _, _, e => by cases e
theorem tgx_t (is : List Nat) : TGX K cm (gT is) (L2.gTup K is.length (gNames is)) is := fun {H N ph d v ρ ρ'} r e => by
  cases d with
  | tup ds =>
    obtain ⟨a, vs, rfl, t, rl⟩ := tup_of r
    obtain ⟨l, ts, e1, ht, hq⟩ := gAll_put is ds vs ρ ρ' rl e
    exact ⟨ts, e1, ht, fun σ Q h => ⟨a, vs, rfl, t.seq, l, hq σ Q h⟩⟩
  | _ => cases e
theorem EnvE.setd {i : Nat} {d : D} {v : V} (r : Rep K cm H (OO O ph) ph d v) (h : EnvE K cm xa O H ph ρ σ) : EnvE K cm xa O H ph (ρ.set i (.val d)) (σ.set i (some v)) := by
  refine ⟨by simp [h.len], fun j s x e1 e2 => ?_, h.tr⟩
  rcases get_set_or e1 with ⟨e, e3⟩ | ⟨e, e3⟩
  · subst e e3
    rcases get_set_or e2 with ⟨_, e4⟩ | ⟨n, _⟩
    · subst e4; exact ⟨v, rfl, r⟩
    · exact absurd rfl n
  · rw [List.getElem?_set_ne e] at e2
    exact h.at_ j s x e3 e2
theorem EnvE.puts : ∀ (ts : List Put) {ρ : Env} {σ : St}, (∀ t ∈ ts, Rep K cm H (OO O ph) ph t.2.1 t.2.2) → EnvE K cm xa O H ph ρ σ → EnvE K cm xa O H ph (putE ts ρ) (putS ts σ)
  | [], _, _, _, h => h
  | t :: ts, ρ, σ, r, h => EnvE.puts ts (fun u hu => r u (List.mem_cons_of_mem _ hu)) (h.setd (r t List.mem_cons_self))
theorem EnvE.setn {i : Nat} (h : EnvE K cm xa O H ph ρ σ) : EnvE K cm xa O H ph (ρ.set i .none) (σ.set i none) := by
  refine ⟨by simp [h.len], fun j s x e1 e2 => ?_, h.tr⟩
  rcases get_set_or e1 with ⟨e, e3⟩ | ⟨e, e3⟩
  · subst e3; trivial
  · rw [List.getElem?_set_ne e] at e2
    exact h.at_ j s x e3 e2
theorem EnvE.wipes (h : EnvE K cm xa O H ph ρ σ) : ∀ is : List Nat, EnvE K cm xa O H ph (wipeE ρ is) (L2.wipe σ is)
  | [] => h
  | i :: is => (EnvE.wipes h is).setn
theorem putS_len : ∀ (ts : List Put) (σ : St), (putS ts σ).length = σ.length
  | [], _ => rfl
  | t :: ts, σ => by
    show (putS ts (σ.set t.1 (some t.2.2))).length = _
    rw [putS_len ts]; simp
theorem putS_out {j : Nat} : ∀ (ts : List Put) (σ : St), (∀ t ∈ ts, t.1 ≠ j) → (putS ts σ)[j]? = σ[j]?
  | [], _, _ => rfl
  | t :: ts, σ, h => by
    show (putS ts (σ.set t.1 (some t.2.2)))[j]? = _
    rw [putS_out ts _ fun u hu => h u (List.mem_cons_of_mem _ hu), List.getElem?_set_ne (h t List.mem_cons_self)]
theorem wipe_in {j : Nat} : ∀ {is : List Nat} {σ : St}, j ∈ is → j < σ.length → (L2.wipe σ is)[j]? = some none
  | i :: is, σ, h, l => by
    unfold L2.wipe
    by_cases e : i = j
    · subst e; rw [List.getElem?_set_self (by rw [L2.wipe_length]; exact l)]
    · rw [List.getElem?_set_ne e]
      rcases List.mem_cons.mp h with z | z
      · exact absurd z.symm e
      · exact wipe_in z l
theorem wipe_eq {is : List Nat} {σ τ : St} (hl : σ.length = τ.length) (h : ∀ j, j ∉ is → σ[j]? = τ[j]?) : L2.wipe σ is = L2.wipe τ is := by
  apply List.ext_getElem?
  intro j
  by_cases hj : j ∈ is
  · by_cases hb : j < σ.length
    · rw [wipe_in hj hb, wipe_in hj (by omega)]
    · rw [List.getElem?_eq_none (by rw [L2.wipe_length]; omega), List.getElem?_eq_none (by rw [L2.wipe_length]; omega)]
  · rw [L2.wipe_out hj, L2.wipe_out hj]; exact h j hj
theorem wipe_puts {is : List Nat} {ts : List Put} (h : ∀ t ∈ ts, t.1 ∈ is) : L2.wipe (putS ts (L2.wipe σ is)) is = L2.wipe σ is := by
  refine wipe_eq (by rw [putS_len, L2.wipe_length]) fun j hj => ?_
  rw [putS_out ts _ fun t ht e => hj (by rw [← e]; exact h t ht), L2.wipe_out hj]
/-- slots take values -/
theorem StS.puts : ∀ (ts : List Put) {ρ : Env} {σ : St}, (∀ t ∈ ts, Rep K cm H (NN q ρ σ ph) ph t.2.1 t.2.2) → StS K cm xa q ρ ph w σ H → StS K cm xa q (putE ts ρ) ph w (putS ts σ) H ∧ Keep H (NN q ρ σ ph) H (NN q (putE ts ρ) (putS ts σ) ph)
  | [], _, _, _, h => ⟨h, .refl⟩
  | t :: ts, ρ, σ, r, h => by
    have k : Keep H (NN q ρ σ ph) H (NN q (ρ.set t.1 (.val t.2.1)) (σ.set t.1 (some t.2.2)) ph) := keep_set fun _ z => by cases z
    obtain ⟨h2, k2⟩ := StS.puts ts (fun u hu => (r u (List.mem_cons_of_mem _ hu)).keep k (fun _ e => e) _ _) (h.setd (r t List.mem_cons_self))
    exact ⟨h2, k.trans k2⟩

/-! a, b = e -/
theorem psx_unp {tg e : Expr} {fe : EF} {is : List Nat} (he : PX X c e fe) (hg : PG X tg (L2.gTup X.K is.length (gNames is))) (hs : swapsWithSole [tg] e pos.line X.env = pure false := by rfl) (hw : swappedStores [tg] e X.env = pure none := by rfl)
    (h1 : (assignEach [tg] X.env).map (·.2) = [assign tg X.env] := by rfl) : PSX X c q (.Assign [tg] e pos) (sUnp is fe) :=
  PS.to (L2.ps_asg he hg hs hw h1) fun D σ H ⟨ρ, ph, w, h, hp⟩ => ⟨_, ρ, ph, w, (onE_run h hp).imp fun v H1 ⟨d, ph1, w1, r, h1, k, hp1⟩ => by
    cases e : gT is d ρ with
    | none => rw [e] at hp1; exact (show False from hp1).elim
    | some ρ' =>
      rw [e] at hp1
      obtain ⟨ts, rfl, ht, hq⟩ := tgx_t is r e
      obtain ⟨h2, k2⟩ := StS.puts ts (fun t m => (ht t m).2) h1
      exact hq σ _ (hp1 _ _ ph1 h2 k2.kp)⟩
theorem psx_par {i j : Nat} {x y : Str} {a b : Expr} {fa fb : EF} {px py pt : Pos} {kt k2 pt2} (hc : X.calm = true) (hN : X.N.Nodup) (hi : X.N[i]? = some x) (hj : X.N[j]? = some y) (hij : i ≠ j)
    (hx : X.env.scope.names.lookup x = some .local) (hy : X.env.scope.names.lookup y = some .local) (ha : PAX X c [a, b] [fa, fb])
    (hw : swappedStores [.Tuple [.Name x px, .Name y py] kt pt] (.Tuple [a, b] k2 pt2) X.env = pure (some [x, y]))
    (hs : swapsWithSole [.Tuple [.Name x px, .Name y py] kt pt] (.Tuple [a, b] k2 pt2) pos.line X.env = pure false := by rfl) :
    PSX X c q (.Assign [.Tuple [.Name x px, .Name y py] kt pt] (.Tuple [a, b] k2 pt2) pos) (sPar i j fa fb) :=
  PS.to (L2.ps_par hc hN hi hj hij hx hy ha hw hs) fun D σ H ⟨ρ, ph, w, h, hp⟩ => ⟨_, ρ, ph, w, (onE_run (rel := relL X.K c.cm _) h hp).imp fun vs H1 ⟨ds, ph1, w1, r, h1, k, hp1⟩ => by
    match ds, r, hp1 with
    | [d1, d2], r, hp1 =>
      obtain ⟨v1, r1, rfl, q1, q2⟩ := RepL.uncons r
      obtain ⟨v2, r3, rfl, q3, q4⟩ := q2.uncons
      cases q4.unnil
      refine ⟨v1, v2, rfl, ?_⟩
      have kk : Keep H1 (NN q ρ σ ph1) H1 (NN q (ρ.set i (.val d1)) (σ.set i (some v1)) ph1) := keep_set fun _ z => by cases z
      have k2 : Keep H1 (NN q (ρ.set i (.val d1)) (σ.set i (some v1)) ph1) H1 (NN q ((ρ.set i (.val d1)).set j (.val d2)) ((σ.set i (some v1)).set j (some v2)) ph1) := keep_set fun _ z => by cases z
      exact hp1 _ _ ph1 ((h1.setd q1).setd (q3.keep kk (fun _ e => e) _ _)) (kk.trans k2).kp
    | [], _, hp1 => exact (show False from hp1).elim
    | [_], _, hp1 => exact (show False from hp1).elim
    | _ :: _ :: _ :: _, _, hp1 => exact (show False from hp1).elim⟩
/-! hand[k] = e -/
theorem StS.hset {hs : List D} {j : Nat} {d : D} {v : V} {p : Addr} {vs : List V} (e : ph = some p) (hv : H p = some (.lst vs)) (r : Rep K cm H (NN q ρ σ ph) ph d v) (h : StS K cm xa q ρ ph (some hs) σ H) :
    StS K cm xa q ρ ph (some (hs.set j d)) σ (upd H p (.lst (vs.set j v))) ∧ Keep H (NN q ρ σ ph) (upd H p (.lst (vs.set j v))) (NN q ρ σ ph) := by
  subst e
  have kk : Keep H (NN q ρ σ (some p)) (upd H p (.lst (vs.set j v))) (NN q ρ σ (some p)) := ⟨fun b o n e => by rw [upd_ne (fun (z : b = p) => n (.inr (by rw [z])))]; exact e, fun b o _ x => x⟩
  obtain ⟨ws, h1, h2⟩ := h.hand
  rw [hv] at h1; cases h1
  have np : ∀ a, OwnS q.O0 ρ σ a → a ≠ p := fun a o z => (h.env.tr a o).1 (by rw [z])
  refine ⟨⟨⟨h.env.len, fun i s x e1 e2 => (h.env.at_ i s x e1 e2).keep kk (fun _ e => e) fun ds p' _ _ o => ⟨o, fun u z => by rw [upd_ne (np p' o)]; exact z⟩, fun a o => ?_⟩, ?_, fun b o n e => ?_, h.phs, h.o0, h.inj, h.fresh, h.newsK fun b o n e => by rw [upd_ne (fun (z : b = p) => n (.inr (by rw [z])))]; exact e⟩, kk⟩
  · obtain ⟨y, us, z, k⟩ := h.env.tr a o
    exact ⟨y, us, by rw [upd_ne (np a o)]; exact z, k⟩
  · exact ⟨vs.set j v, upd_same, RepL.set (h2.keep kk (fun _ e => e) hs vs) (r.keep kk (fun _ e => e) d v)⟩
  · rw [upd_ne (fun z => ?_)]
    · exact h.base b o n e
    · subst z
      rcases h.phs with y | ⟨_, p', y, hp'⟩
      · exact n y.symm
      · cases y; rw [hp'] at e; cases e
theorem psx_hset {o i e : Expr} {fo fi fe : EF} {p2 : Pos} (he : PX X c e fe) (ho : PX X c o fo) (hi : PX X c i fi)
    (hg : PG X (.Subscript o i p2) (L2.gSub (tX X.K c.cm c.xa c.Wx fo) (tX X.K c.cm c.xa c.Wx fi) L2.rSetL)) (hs : swapsWithSole [.Subscript o i p2] e pos.line X.env = pure false := by rfl) (hw : swappedStores [.Subscript o i p2] e X.env = pure none := by rfl)
    (h1 : (assignEach [.Subscript o i p2] X.env).map (·.2) = [assign (.Subscript o i p2) X.env] := by rfl) : PSX X c q (.Assign [.Subscript o i p2] e pos) (sHSet fo fi fe) :=
  PS.to (L2.ps_asg he hg hs hw h1) fun D σ H ⟨ρ, ph, w, h, hp⟩ => by
    have r0 := onE_run (rel := relL X.K c.cm (OwnS q.O0 ρ σ)) h hp
    refine ⟨_, ρ, ph, w, (Run.bind (rel := relV X.K c.cm (OwnS q.O0 ρ σ)) r0).imp fun v H1 ⟨d, ph1, w1, e1, s1, r1, h1⟩ => ?_⟩
    refine ⟨_, ρ, ph1, w1, (Run.bind (rel := relV X.K c.cm (OwnS q.O0 ρ σ)) h1).imp fun ov H2 ⟨od, ph2, w2, e2, s2, r2, h2⟩ => ?_⟩
    refine ⟨_, ρ, ph2, w2, (Run.bind (rel := relV X.K c.cm (OwnS q.O0 ρ σ)) h2).imp fun iv H3 ⟨id, ph3, w3, e3, s3, r3, h3⟩ => ?_⟩
    have r1' := Rep.keep (Ext.keep e3 s3) s3.m d v (Rep.keep (Ext.keep e2 s2) s2.m d v r1)
    have r2' := Rep.keep (Ext.keep e3 s3) s3.m od ov r2
    obtain ⟨xs, ph4, w4, r4, h4, k4, hp4⟩ := h3.ret (b := [v, ov, iv]) (RepL.cons r1' (RepL.cons r2' (RepL.cons r3 RepL.nil)))
    rcases hsK_cases ρ xs w4 with e0 | ⟨d', i, hs, rfl, rfl⟩
    · rw [e0] at hp4; exact (show False from hp4).elim
    · obtain ⟨_, _, e5, q1, q2⟩ := RepL.uncons r4
      cases e5
      obtain ⟨_, _, e5, q3, q4⟩ := q2.uncons
      cases e5
      obtain ⟨_, _, e5, q5, q6⟩ := q4.uncons
      cases e5
      cases int_of q5
      simp only [Rep] at q3
      obtain ⟨p, e6, rfl⟩ := q3
      subst e6
      have hh := h4.hand
      obtain ⟨vs, hv, hr⟩ := hh
      unfold hsK at hp4
      cases ej : ixP hs.length i with
      | none => simp only [ej] at hp4; exact (show False from hp4).elim
      | some j =>
        simp only [ej] at hp4
        obtain ⟨h5, k5⟩ := h4.hset (j := j) rfl hv q1
        exact ⟨p, vs, i, j, rfl, rfl, hv, by rw [ixP_eq, ← hr.length]; exact ej, hp4 σ _ _ h5 k5.kp⟩

/-! ### what is walked -/
/-- J goes through xs while C holds -/
structure Feeds (K : PySem.W.Frag) (cm : Nat → Addr) (J : It) (xs : List D) (C : Hp → NS → Option Addr → Prop) : Prop where
  stay : ∀ {H N H' N' ph ph'}, C H N ph → Keep H N H' N' → PhM ph ph' → C H' N' ph'
  walk : ∃ (G : Hp → Prop) (Y : Nat → Hp → V → Hp → Prop), Walk J xs.length G Y ∧ (∀ H N ph, C H N ph → G H) ∧
    ∀ i d H N ph x H', C H N ph → (∀ p, H p = none → ¬ N p) → xs[i]? = some d → Y i H x H' → (∀ b o, H b = some o → H' b = some o) ∧ Rep K cm H' N ph d x
def relI (K : PySem.W.Frag) (cm : Nat → Addr) (O : NS) : Hp → Option Addr → List D → It → Prop := fun H ph xs J => ∃ C, C H (OO O ph) ph ∧ Feeds K cm J xs C
abbrev PIX (X : Cx) (c : Cfg) (tg iter : Expr) (f : IF) : Prop := PI X tg iter (fun σ H R => ∃ O ρ ph w, Run X.K c.cm c.xa O (relI X.K c.cm O) c.Wx ρ σ ph H w (f ρ) R)
theorem PI.to {tg iter : Expr} {t t' : TI} (h : PI X tg iter t) (m : ∀ σ H R, t' σ H R → t σ H R) : PI X tg iter t' := ⟨fun pins s σ H R I q => h.run pins s σ H R I (m σ H R q)⟩
theorem feeds_list {a : Addr} {ds : List D} {vs : List V} : Feeds K cm (L2.Itl K a) ds (fun H N ph => LN K H N a vs ∧ RepL K cm H N ph ds vs) :=
  ⟨fun h k m => ⟨h.1.keep k, h.2.keep k m ds vs⟩, fun H => L2.SqL K H a vs ∧ ds.length = vs.length, L2.YAt vs, ⟨fun i H hi h => by rw [h.2] at hi; exact (L2.walk_list (K := K) (a := a) (xs := vs)).goes i H hi h.1, fun H h => by rw [h.2]; exact (L2.walk_list (K := K) (a := a) (xs := vs)).stops H h.1, fun i H x H' hi h => by rw [h.2] at hi; exact (L2.walk_list (K := K) (a := a) (xs := vs)).yields i H x H' hi h.1⟩,
    fun H N ph h => ⟨h.1.seq, h.2.length⟩, fun i d H N ph x H' h _ e y => by
      obtain ⟨rfl, y⟩ := y
      obtain ⟨v, e1, r⟩ := h.2.get e
      rw [y] at e1; cases e1
      exact ⟨fun _ _ e => e, r⟩⟩
theorem feeds_tup {a : Addr} {ds : List D} {vs : List V} : Feeds K cm (L2.Itt K a) ds (fun H N ph => TN K H N a vs ∧ RepL K cm H N ph ds vs) :=
  ⟨fun h k m => ⟨h.1.keep k, h.2.keep k m ds vs⟩, fun H => L2.SqT K H a vs ∧ ds.length = vs.length, L2.YAt vs, ⟨fun i H hi h => by rw [h.2] at hi; exact (L2.walk_tup (K := K) (a := a) (xs := vs)).goes i H hi h.1, fun H h => by rw [h.2]; exact (L2.walk_tup (K := K) (a := a) (xs := vs)).stops H h.1, fun i H x H' hi h => by rw [h.2] at hi; exact (L2.walk_tup (K := K) (a := a) (xs := vs)).yields i H x H' hi h.1⟩,
    fun H N ph h => ⟨h.1.seq, h.2.length⟩, fun i d H N ph x H' h _ e y => by
      obtain ⟨rfl, y⟩ := y
      obtain ⟨v, e1, r⟩ := h.2.get e
      rw [y] at e1; cases e1
      exact ⟨fun _ _ e => e, r⟩⟩
theorem rangeL_get {lo hi : Int} {i : Nat} {d : D} (e : (rangeL lo hi)[i]? = some d) : d = .int (lo + i) := by
  unfold rangeL at e
  rw [List.getElem?_map] at e
  cases q : (List.range (hi - lo).toNat)[i]? with
  | none => rw [q] at e; cases e
  | some k =>
    rw [q] at e
    have := List.getElem?_range (n := (hi - lo).toNat) (i := i) (by
      have := (List.getElem?_eq_some_iff.mp q).1; simpa using this)
    rw [this] at q; cases q
    cases e; rfl
theorem feeds_range {lo hi : Int} : Feeds K cm (L2.Itr lo (hi - lo).toNat) (rangeL lo hi) (fun _ _ _ => True) :=
  ⟨fun h _ _ => h, fun _ => True, L2.YFn fun i => .int (lo + i), by
    have e : (rangeL lo hi).length = (hi - lo).toNat := by unfold rangeL; simp
    rw [e]; exact L2.walk_range, fun _ _ _ _ => trivial, fun i d H N ph x H' _ _ e y => by
      obtain ⟨rfl, rfl⟩ := y
      rw [rangeL_get e]
      exact ⟨fun _ _ e => e, by simp [Rep]⟩⟩
/-- new pairs -/
theorem pair_new {T : Addr} {x y : V} {d e : D} (hn : ∀ p, H p = none → ¬ N p) (hT : H T = none) (r : Rep K cm H N ph d x) (s : Rep K cm H N ph e y) : (∀ b o, H b = some o → (upd H T (.tup [x, y])) b = some o) ∧ Rep K cm (upd H T (.tup [x, y])) N ph (.tup [d, e]) (.ref T) := by
  have k : Keep H N (upd H T (.tup [x, y])) N := ⟨fun b o _ e => by rw [upd_ne (ne_of_none e hT)]; exact e, fun _ _ _ z => z⟩
  refine ⟨fun b o e => by rw [upd_ne (ne_of_none e hT)]; exact e, ?_⟩
  simp only [Rep]
  exact ⟨T, [x, y], rfl, .inl ⟨hn T hT, .inl upd_same⟩, RepL.cons (r.keep k (fun _ e => e) _ _) (RepL.one (s.keep k (fun _ e => e) _ _))⟩
theorem enumL_get {xs : List D} {i : Nat} {d : D} (e : (enumL xs)[i]? = some d) : ∃ x, xs[i]? = some x ∧ d = .tup [.int (i : Int), x] := by
  unfold enumL at e
  rw [List.getElem?_map, List.getElem?_zipIdx] at e
  cases q : xs[i]? with
  | none => rw [q] at e; cases e
  | some x => rw [q] at e; cases e; exact ⟨x, rfl, by simp⟩
theorem feeds_enum {a : Addr} {ds : List D} {vs : List V} : Feeds K cm (L2.Ite K a) (enumL ds) (fun H N ph => LN K H N a vs ∧ RepL K cm H N ph ds vs) :=
  have el : (enumL ds).length = ds.length := by unfold enumL; simp
  ⟨fun h k m => ⟨h.1.keep k, h.2.keep k m ds vs⟩, fun H => L2.SqL K H a vs ∧ (enumL ds).length = vs.length, L2.YPair (fun i => some (.int (i : Nat))) (fun i => vs[i]?), ⟨fun i H hi h => by rw [h.2] at hi; exact (L2.walk_enum (K := K) (a := a) (xs := vs)).goes i H hi h.1, fun H h => by rw [h.2]; exact (L2.walk_enum (K := K) (a := a) (xs := vs)).stops H h.1, fun i H x H' hi h => by rw [h.2] at hi; exact (L2.walk_enum (K := K) (a := a) (xs := vs)).yields i H x H' hi h.1⟩,
    fun H N ph h => ⟨h.1.seq, el.trans h.2.length⟩, fun i d H N ph x H' h hn e y => by
      obtain ⟨T, x1, y1, rfl, hT, rfl, e1, e2⟩ := y
      obtain ⟨d1, e3, rfl⟩ := enumL_get e
      obtain ⟨v, e4, r⟩ := h.2.get e3
      have e2 : vs[i]? = some y1 := e2
      rw [e2] at e4; cases e4
      cases e1
      exact pair_new hn hT (by simp [Rep]) r⟩
/-- over a list or a tuple -/
theorem pix_seq {tg e : Expr} {fe : EF} (hh : ∀ {tl : TE}, PE X e tl → PI X tg e (fun σ H R => tl σ H fun x H1 => ∃ a, x = .ref a ∧ ((∃ xs, L2.SqL X.K H1 a xs ∧ R (L2.Itl X.K a) H1) ∨ (∃ xs, L2.SqT X.K H1 a xs ∧ R (L2.Itt X.K a) H1)))) (he : PX X c e fe) : PIX X c tg e (iSeq fe) :=
  PI.to (hh he) fun σ H R ⟨O, ρ, ph, w, h⟩ => ⟨O, ρ, ph, w, (Run.bind (rel := relV X.K c.cm O) h).imp fun v H1 ⟨d, ph1, w1, e1, s1, r1, h1⟩ => by
    cases d with
    | lst ds =>
      obtain ⟨a, vs, rfl, ⟨n, t⟩, rl⟩ := lst_of r1
      exact ⟨a, rfl, .inl ⟨vs, .inl (.inl t), h1.ret (b := L2.Itl X.K a) ⟨_, ⟨.inl ⟨n, .inl t⟩, rl⟩, feeds_list⟩⟩⟩
    | frz ds =>
      obtain ⟨a, vs, rfl, t, rl⟩ := frz_of r1
      exact ⟨a, rfl, .inl ⟨vs, t.seq, h1.ret (b := L2.Itl X.K a) ⟨_, ⟨t, rl⟩, feeds_list⟩⟩⟩
    | tup ds =>
      obtain ⟨a, vs, rfl, t, rl⟩ := tup_of r1
      exact ⟨a, rfl, .inr ⟨vs, t.seq, h1.ret (b := L2.Itt X.K a) ⟨_, ⟨t, rl⟩, feeds_tup⟩⟩⟩
    | _ => exact h1.no⟩
theorem pi_any {tg l : Expr} {tl : TE} (hl : PE X l tl) : PI X tg l (fun σ H R => tl σ H fun x H1 => ∃ a, x = .ref a ∧ ((∃ xs, L2.SqL X.K H1 a xs ∧ R (L2.Itl X.K a) H1) ∨ (∃ xs, L2.SqT X.K H1 a xs ∧ R (L2.Itt X.K a) H1))) := by
  refine ⟨fun pins s σ H R I h => L2.thn (hl.run pins s σ H _ I h) fun u s2 ⟨x, H2, I2, rx, a, ex, hq⟩ => ?_⟩
  subst ex
  cases rx
  have fr : L2.FpOk X pins H2 s2.heap.objs.size := I2.fpOk (Nat.le_refl _) (I2.hok.fresh (Nat.le_refl _))
  rcases hq with ⟨xs, hx, hR⟩ | ⟨xs, hx, hR⟩
  · obtain ⟨its, rv, pl, hz⟩ := I2.list hx
    exact wpAny_pyIter_list pl.isList ⟨s2.heap.objs.size, [s2.heap.objs.size], _, _, H2, rfl, I2.kept (t' := s2.toks) fun b o q => Heap.get?_push_of_some _ q, L2.turn_list a _, ⟨_, Heap.get?_push_size _ rfl, rfl, rfl⟩, fun b hb => by
      rw [List.mem_singleton.mp hb]; exact fr, hR⟩
  · obtain ⟨its, rv, pl, hz⟩ := I2.tuple hx
    exact wpAny_pyIter_tuple (show s2.heap.IsTuple a its.toArray from pl) ⟨s2.heap.objs.size, [s2.heap.objs.size], _, _, H2, rfl, I2.kept (t' := s2.toks) fun b o q => Heap.get?_push_of_some _ q, L2.turn_tuple a _, ⟨_, Heap.get?_push_size _ rfl, rfl, rfl⟩, fun b hb => by
      rw [List.mem_singleton.mp hb]; exact fr, hR⟩
theorem pix_any {tg e : Expr} {fe : EF} (he : PX X c e fe) : PIX X c tg e (iSeq fe) := pix_seq pi_any he
theorem range_run {xa O Wx ρ σ ph H w} {R : It → Hp → Prop} {d1 d2 : D} {v1 v2 : V} (r1 : Rep K cm H (OO O ph) ph d1 v1) (r2 : Rep K cm H (OO O ph) ph d2 v2) (h : Run K cm xa O (relI K cm O) Wx ρ σ ph H w (rangeM d1 d2) R) :
    ∃ i j : Int, v1 = .int i ∧ v2 = .int j ∧ (-(2 ^ 62) ≤ i ∧ i < 2 ^ 62 ∧ -(2 ^ 62) ≤ j ∧ j < 2 ^ 62) ∧ R (L2.Itr i (j - i).toNat) H := by
  cases d1 <;> cases d2 <;> try exact h.no
  rename_i i j
  by_cases hb : (near i && near j) = true
  · simp only [rangeM, if_pos hb] at h
    have hc : -(2 ^ 62) ≤ i ∧ i < 2 ^ 62 ∧ -(2 ^ 62) ≤ j ∧ j < 2 ^ 62 := by
      rw [Bool.and_eq_true] at hb
      exact ⟨(near_of hb.1).1, (near_of hb.1).2, (near_of hb.2).1, (near_of hb.2).2⟩
    exact ⟨i, j, int_of r1, int_of r2, hc, h.ret ⟨_, trivial, feeds_range⟩⟩
  · simp only [rangeM, if_neg hb] at h; exact h.no
theorem pix_range2 {tg a b : Expr} {fa fb : EF} {p : Pos} (hg : L2.Gl X "range") (hm : X.mg "range" = none) (ha : PX X c a fa) (hb : PX X c b fb) (hs : starEach [a, b] X.env = [(false, eval a X.env), (false, eval b X.env)] := by rfl) (hs2 : starEach [b] X.env = [(false, eval b X.env)] := by rfl)
    (he : starEach (a :: [b]) X.env = (false, eval a X.env) :: starEach [b] X.env := by rfl) (he2 : starEach (b :: []) X.env = (false, eval b X.env) :: starEach [] X.env := by rfl) :
    PIX X c tg (.Call (.Name "range" p) [a, b] [] pos) (iRng fa fb) :=
  PI.to (L2.pi_range2 hg hm (L2.pa_cons ha (L2.pa_cons hb L2.pa_nil he2) he) hs hs2) fun σ H R ⟨O, ρ, ph, w, h⟩ => ⟨O, ρ, ph, w, (Run.bind (rel := relV X.K c.cm O) h).imp fun v H1 ⟨d, ph1, w1, e1, s1, r1, h1⟩ => ⟨O, ρ, ph1, w1, (Run.bind (rel := relV X.K c.cm O) h1).imp fun v2 H2 ⟨d2, ph2, w2, e2, s2, r2, h2⟩ => by
    obtain ⟨i, j, rfl, rfl, hb, q⟩ := range_run (Rep.keep (Ext.keep e2 s2) s2.m d v r1) r2 h2
    exact ⟨i, j, rfl, hb, q⟩⟩⟩
theorem pix_range1 {tg a : Expr} {fa : EF} {p : Pos} (hg : L2.Gl X "range") (hm : X.mg "range" = none) (ha : PX X c a fa) (hs : starEach [a] X.env = [(false, eval a X.env)] := by rfl) (he : starEach (a :: []) X.env = (false, eval a X.env) :: starEach [] X.env := by rfl) :
    PIX X c tg (.Call (.Name "range" p) [a] [] pos) (iRng (eC (.int 0)) fa) :=
  PI.to (L2.pi_range1 hg hm (L2.pa_cons ha L2.pa_nil he) hs) fun σ H R ⟨O, ρ, ph, w, h⟩ => by
    have h' : Run X.K c.cm c.xa O (relI X.K c.cm O) c.Wx ρ σ ph H w (M.bind (fa ρ) fun y => rangeM (.int 0) y) R := h
    refine ⟨O, ρ, ph, w, (Run.bind (rel := relV X.K c.cm O) h').imp fun v2 H2 ⟨d2, ph2, w2, e2, s2, r2, h2⟩ => ?_⟩
    obtain ⟨i, j, ei, rfl, hb, q⟩ := range_run (v1 := .int 0) (by simp [Rep]) r2 h2
    cases ei
    refine ⟨j, rfl, hb.2.2.1, hb.2.2.2, ?_⟩
    have e0 : j - 0 = j := Int.sub_zero j
    rw [e0] at q; exact q

/-! ### for -/
theorem psx_for {tg iter : Expr} {body : List Stmt} {f : IF} {g : GF} {gt : TG} {is : List Nat} {b : SF} (hp : PassesOwn (model X.prog X.w) X.A X.env X.xe) (hc : X.calm = true) (hi : PIX X c tg iter f) (hg : PG X tg gt) (hG : TGX X.K c.cm g gt is) (hb : PSSX X c q body b)
    (hs : ∀ x, foldedSetIterable iter X.env x = pure x := by intro _; rfl) : PSX X c q (.For tg iter body [] pos) (sFor f g b) :=
  PS.to (L2.ps_for hp hc hi hg hb hs) fun D σ H ⟨ρ, ph, w, h, hpo⟩ => by
    refine ⟨_, ρ, ph, w, (onE_run h hpo).imp fun J H1 ⟨xs, ph1, w1, ⟨C, hC, F⟩, h1, k1, hp1⟩ => ?_⟩
    obtain ⟨G, Y, hw, hCG, hY⟩ := F.walk
    refine L2.for_it hw (fun i σ' H' => ∃ ρ' ph' w', StS X.K c.cm c.xa q ρ' ph' w' σ' H' ∧ C H' (NN q ρ' σ' ph') ph' ∧ Post2 X.K c.cm c.xa q c.Wx D H' (NN q ρ' σ' ph') ph' (forL g b (xs.drop i) ρ' w')) ⟨ρ, ph1, w1, h1, hC, hp1⟩ (fun i σ' H' _ ⟨ρ', ph', w', _, hC', _⟩ => hCG _ _ _ hC') ?_ ?_
    · rintro i x σ2 H2 H3 hi ⟨ρ2, ph2, w2, h2, hC2, hp2⟩ y
      have ex : xs[i]? = some xs[i] := List.getElem?_eq_getElem hi
      obtain ⟨kx, rx⟩ := hY i xs[i] H2 (NN q ρ2 σ2 ph2) ph2 x H3 hC2 (fun p hpn => fresh_oo h2.env.tr h2.hand hpn) ex y
      have xt : Ext ph2 H2 H3 := fun b o _ e => kx b o e
      have hh3 : HandOk X.K c.cm H3 (OwnS q.O0 ρ2 σ2) ph2 w2 := h2.hand.keep (Ext.keep xt .refl) fun p _ o e => kx p o e
      have h3 := h2.ext xt .refl hh3
      have k3 : Keep H2 (NN q ρ2 σ2 ph2) H3 (NN q ρ2 σ2 ph2) := Ext.keep xt .refl
      have ed : xs.drop i = xs[i] :: xs.drop (i + 1) := List.drop_eq_getElem_cons hi
      rw [ed] at hp2
      cases eg : g xs[i] ρ2 with
      | none => rw [forL_none eg] at hp2; exact (show False from hp2).elim
      | some ρ3 =>
        rw [forL_cons eg] at hp2
        obtain ⟨ts, rfl, ht, hq⟩ := hG rx eg
        obtain ⟨h4, k4⟩ := StS.puts ts (fun t m => (ht t m).2) h3
        refine hq σ2 _ ⟨_, ph2, w2, h4, ?_⟩
        have kk := k3.trans k4
        have hC4 := F.stay hC2 kk (fun _ e => e)
        have hp4 := hp2.keep kk.kp
        revert hp4
        cases eb : b (putE ts ρ2) w2 with
        | nx ρ5 w5 => exact fun hp4 σ5 H5 ph5 h5 k5 => ⟨ρ5, ph5, w5, h5, F.stay hC4 k5.k k5.m, hp4.keep k5⟩
        | ct ρ5 w5 => exact fun hp4 σ5 H5 ph5 h5 k5 => ⟨ρ5, ph5, w5, h5, F.stay hC4 k5.k k5.m, hp4.keep k5⟩
        | bk ρ5 w5 => exact fun hp4 => hp4
        | rt d w5 => exact fun hp4 => hp4
        | ex c ns xs ρ5 w5 => exact fun hp4 => hp4
        | bad => exact fun hp4 => hp4
    · rintro σ2 H2 ⟨ρ2, ph2, w2, h2, hC2, hp2⟩
      rw [List.drop_length] at hp2
      exact hp2 σ2 H2 ph2 h2 .refl
/-! ### while -/
theorem psx_while {t : Expr} {body : List Stmt} {ft : TF} {b : SF} (fuel : Env → Wd → Nat) (hp : PassesOwn (model X.prog X.w) X.A X.env X.xe) (ht : PTX X c t ft) (hb : PSSX X c q body b) : PSX X c q (.While t body [] pos) (sWhile fuel ft b) :=
  PS.to (L2.ps_while hp ht hb) fun D σ H ⟨ρ, ph, w, h, hpo⟩ => by
    refine ⟨fun n σ' H' => ∃ ρ' ph' w', StS X.K c.cm c.xa q ρ' ph' w' σ' H' ∧ Post2 X.K c.cm c.xa q c.Wx D H' (NN q ρ' σ' ph') ph' (whileL ft b n ρ' w'), ⟨_, ρ, ph, w, h, hpo⟩, ?_⟩
    rintro n σ2 H2 ⟨ρ2, ph2, w2, h2, hp2⟩
    cases n with
    | zero => exact (show False from hp2).elim
    | succ n =>
      refine ⟨_, ρ2, ph2, w2, (onE_run (rel := relB) h2 hp2).imp fun k H3 ⟨k', ph3, w3, r3, h3, kp3, hp3⟩ => ?_⟩
      cases r3
      cases k with
      | false => exact hp3 σ2 H3 ph3 h3 .refl
      | true =>
        simp only [if_true] at hp3 ⊢
        refine ⟨fun σ' H' => ∃ ρ' ph' w', StS X.K c.cm c.xa q ρ' ph' w' σ' H' ∧ Post2 X.K c.cm c.xa q c.Wx D H' (NN q ρ' σ' ph') ph' (whileL ft b n ρ' w'), fun σ' H' hh => ⟨n, Nat.lt_succ_self n, hh⟩, ρ2, ph3, w3, h3, ?_⟩
        revert hp3
        cases eb : b ρ2 w3 with
        | nx ρ5 w5 => exact fun hp4 σ5 H5 ph5 h5 k5 => ⟨ρ5, ph5, w5, h5, hp4.keep k5⟩
        | ct ρ5 w5 => exact fun hp4 σ5 H5 ph5 h5 k5 => ⟨ρ5, ph5, w5, h5, hp4.keep k5⟩
        | bk ρ5 w5 => exact fun hp4 => hp4
        | rt d w5 => exact fun hp4 => hp4
        | ex c ns xs ρ5 w5 => exact fun hp4 => hp4
        | bad => exact fun hp4 => hp4

/-! ### comprehensions -/
def delD (H : Hp) (D : Addr) : Hp := fun b => if b = D then none else H b
theorem delD_same {D : Addr} : delD H D D = none := if_pos rfl
theorem delD_ne {D b : Addr} (h : b ≠ D) : delD H D b = H b := if_neg h
theorem delD_some {D b : Addr} {o : HO} (h : delD H D b = some o) : b ≠ D ∧ H b = some o := by
  by_cases e : b = D
  · subst e; rw [delD_same] at h; cases h
  · rw [delD_ne e] at h; exact ⟨e, h⟩
theorem upd_del {D : Addr} {o : HO} (h : H D = some o) : upd (delD H D) D o = H := by
  funext b
  by_cases e : b = D
  · subst e; rw [upd_same, h]
  · rw [upd_ne e, delD_ne e]
theorem del_upd {D : Addr} {o : HO} (h : H D = none) : delD (upd H D o) D = H := by
  funext b
  by_cases e : b = D
  · subst e; rw [delD_same, h]
  · rw [delD_ne e, upd_ne e]
def addO (O : NS) (D : Addr) : NS := fun a => O a ∨ a = D
abbrev noW : WX := fun _ _ _ _ => False
/-- a run that raises nothing -/
theorem Run.noex {α β : Type} {rel : Hp → Option Addr → α → β → Prop} {m : M α} {Wx : WX} {Q : β → Hp → Prop} (h : Run K cm xa O rel Wx ρ σ ph H w (noEx m) Q) : Run K cm xa O rel noW ρ σ ph H w m Q := by
  refine ⟨h.env, h.hand, ?_⟩
  have hp := h.post
  unfold noEx at hp
  cases e : m w with
  | ok a w' => rw [e] at hp; exact hp
  | ex c ns xs w' => rw [e] at hp; exact (show False from hp).elim
  | bad => rw [e] at hp; exact (show False from hp).elim
/-- the state of a comprehension: D its list, acc what it holds -/
structure LcS (K : PySem.W.Frag) (cm : Nat → Addr) (xa : Option (Addr × Nat × Addr)) (O : NS) (D : Addr) (ρ : Env) (σ : St) (ph : Option Addr) (w : Wd) (ds : List FL.D) (n : Nat) (H : Hp) : Prop where
  env : EnvE K cm xa (addO O D) H ph ρ σ
  hand : HandOk K cm H (addO O D) ph w
  acc : ∃ vs, H D = some (.lst vs) ∧ RepL K cm H (OO (addO O D) ph) ph ds vs ∧ vs.length ≤ n
theorem addO_keep {D : Addr} : Keep H (OO (addO O D) ph) (delD H D) (OO O ph) :=
  ⟨fun b o n e => by rw [delD_ne (fun z => n (.inl (.inr z)))]; exact e, fun b o _ x => x.elim (fun y => .inl (.inl y)) .inr⟩
theorem del_ext {D : Addr} (x : Ext ph H H') : Ext ph (delD H D) (delD H' D) := fun b o n e => by
  obtain ⟨h1, h2⟩ := delD_some e
  rw [delD_ne h1]; exact x b o n h2
theorem del_phs {D : Addr} (s : PhS H ph ph') : PhS (delD H D) ph ph' := by
  rcases s with s | ⟨s, p, s2, hp⟩
  · exact .inl s
  · refine .inr ⟨s, p, s2, ?_⟩
    by_cases e : p = D
    · subst e; exact delD_same
    · rw [delD_ne e]; exact hp
theorem addO_new {D : Addr} {o : HO} (hD : H D = none) : Keep H (OO O ph) (upd H D o) (OO (addO O D) ph) := by
  refine ⟨fun b u _ e => by rw [upd_ne (ne_of_none e hD)]; exact e, fun b u e x => ?_⟩
  rcases x with (x | x) | x
  · exact .inl x
  · rw [x, hD] at e; cases e
  · exact .inr x
theorem addO_upd {D : Addr} {o : HO} : Keep H (OO (addO O D) ph) (upd H D o) (OO (addO O D) ph) :=
  ⟨fun b u n e => by rw [upd_ne (fun z => n (.inl (.inr z)))]; exact e, fun _ _ _ x => x⟩
/-- the places of own lists are not D -/
def NotD (D : Addr) (ρ : Env) (σ : St) : Prop := ∀ (i : Nat) p xs, ρ[i]? = some (.own xs) → σ[i]? = some (some (.ref p)) → p ≠ D
theorem LcS.start {D : Addr} {is : List Nat} (hD : H D = none) (he : EnvE K cm xa O H ph ρ σ) (hh : HandOk K cm H O ph w) : LcS K cm xa O D (wipeE ρ is) (L2.wipe σ is) ph w [] 0 (upd H D (.lst [])) ∧ NotD D (wipeE ρ is) (L2.wipe σ is) := by
  have hw := he.wipes is
  have kk := addO_new (O := O) (ph := ph) (o := .lst []) hD
  have nd : NotD D (wipeE ρ is) (L2.wipe σ is) := fun i p xs h1 h2 z => by
    obtain ⟨p', vs, e1, o, e2, _⟩ := hw.ownd h1
    rw [h2] at e1; cases e1
    rw [z, hD] at e2; cases e2
  have nph : ph ≠ some D := fun e => by
    obtain ⟨vs, z⟩ := hh.tr e
    rw [hD] at z; cases z
  refine ⟨⟨⟨hw.len, fun i s x e1 e2 => (hw.at_ i s x e1 e2).keep kk (fun _ e => e) fun ds p hs hx o => ⟨.inl o, fun u z => by rw [upd_ne (nd i p ds (by rw [e1, hs]) (by rw [e2, hx]))]; exact z⟩, fun a o => ?_⟩, hh.keep kk fun p e u z => by rw [upd_ne (ne_of_none z hD)]; exact z, [], upd_same, RepL.nil, Nat.le_refl _⟩, nd⟩
  rcases o with o | o
  · obtain ⟨n, vs, z, k⟩ := he.tr a o
    exact ⟨n, vs, by rw [upd_ne (ne_of_none z hD)]; exact z, k⟩
  · subst o; exact ⟨nph, _, upd_same, .lst []⟩
theorem LcS.ext {D : Addr} {ds : List FL.D} {n : Nat} (x : Ext ph H H') (s : PhS H ph ph') (hk : HandOk K cm H' (addO O D) ph' w') (h : LcS K cm xa O D ρ σ ph w ds n H) : LcS K cm xa O D ρ σ ph' w' ds n H' := by
  obtain ⟨vs, h1, h2, h3⟩ := h.acc
  have nph : ph ≠ some D := (h.env.tr D (.inr rfl)).1
  exact ⟨h.env.ext x s, hk, vs, x D _ nph h1, h2.keep (Ext.keep x s) s.m ds vs, h3⟩
theorem LcS.app {D : Addr} {ds : List FL.D} {n : Nat} {d : FL.D} {v : V} {vs : List V} (nd : NotD D ρ σ) (h1 : H D = some (.lst vs)) (h2 : RepL K cm H (OO (addO O D) ph) ph ds vs) (h3 : vs.length ≤ n) (r : Rep K cm H (OO (addO O D) ph) ph d v)
    (h : LcS K cm xa O D ρ σ ph w ds n H) : LcS K cm xa O D ρ σ ph w (ds ++ [d]) (n + 1) (upd H D (.lst (vs ++ [v]))) := by
  have kk := addO_upd (H := H) (O := O) (ph := ph) (D := D) (o := .lst (vs ++ [v]))
  have nph : ph ≠ some D := (h.env.tr D (.inr rfl)).1
  refine ⟨⟨h.env.len, fun i s x e1 e2 => (h.env.at_ i s x e1 e2).keep kk (fun _ e => e) fun ds p hs hx o => ⟨o, fun u z => by rw [upd_ne (nd i p ds (by rw [e1, hs]) (by rw [e2, hx]))]; exact z⟩, fun a o => ?_⟩, h.hand.keep kk fun p e u z => by rw [upd_ne (fun y => nph (by rw [← y]; exact e))]; exact z, vs ++ [v], upd_same, (h2.append (RepL.one r)).keep kk (fun _ e => e) _ _, by rw [List.length_append]; simp; exact h3⟩
  by_cases z : a = D
  · subst z; exact ⟨nph, _, upd_same, .lst _⟩
  · obtain ⟨n', us, e, k⟩ := h.env.tr a o
    exact ⟨n', us, by rw [upd_ne z]; exact e, k⟩
theorem lc_read {own : List (Str × Nat)} {f : IF} {g : GF} {gt : TG} {is : List Nat} {t : TF} {fe : EF} (his : own.map (·.2) = is) (hG : TGX X.K c.cm g gt is) : ∀ σ H Q, tNX X.K c.cm c.xa c.Wx (nLc f is g t fe) σ H Q →
    L2.tLc (fun σ H R => ∃ O ρ ph w, Run X.K c.cm c.xa O (relI X.K c.cm O) c.Wx ρ σ ph H w (f ρ) R) gt (tTX X.K c.cm c.xa noW t) (tX X.K c.cm c.xa noW fe) (own.map (·.2)) σ H Q := fun σ H Q ⟨O, ρ, ph, w, h⟩ => by
    subst his
    refine ⟨O, ρ, ph, w, (Run.bind (rel := relI X.K c.cm O) h).imp fun J H1 ⟨xs, ph1, w1, e1, s1, ⟨C, hC, F⟩, h1⟩ D hD => ?_⟩
    by_cases hl : xs.length ≤ line
    · simp only [if_pos hl] at h1
      obtain ⟨G, Y, hw, hCG, hY⟩ := F.walk
      obtain ⟨L0, nd⟩ := LcS.start (is := own.map (·.2)) hD h1.env h1.hand
      refine L2.lc_it hw (fun i H' => ∃ ds ph' w', LcS X.K c.cm c.xa O D (wipeE ρ (own.map (·.2))) (L2.wipe σ (own.map (·.2))) ph' w' ds i H' ∧ C H' (OO (addO O D) ph') ph' ∧
        Post1 X.K c.cm O (relL X.K c.cm O) c.Wx σ ph' (delD H' D) (fun vs H1 => ∀ p, H1 p = none → Q (.ref p) (upd H1 p (.lst vs))) (M.bind (lcL g t fe (wipeE ρ (own.map (·.2))) (xs.drop i)) (fun ys => M.ret (ds ++ ys)) w')) ?_ (fun i H' _ ⟨ds, ph', w', _, hC', _⟩ => hCG _ _ _ hC') ?_ ?_
      · refine ⟨[], ph1, w1, L0, F.stay hC (addO_new hD) (fun _ e => e), ?_⟩
        rw [del_upd hD, List.drop_zero]
        have e : M.bind (lcL g t fe (wipeE ρ (own.map (·.2))) xs) (fun ys => M.ret ([] ++ ys)) = lcL g t fe (wipeE ρ (own.map (·.2))) xs := by
          have : (fun ys : List FL.D => M.ret ([] ++ ys)) = M.ret := by funext ys; rw [List.nil_append]
          rw [this, bind_ret]
        rw [e]; exact h1.post
      · rintro i x H2 H3 hi ⟨ds, ph2, w2, L, hC2, hp2⟩ y
        have ex : xs[i]? = some xs[i] := List.getElem?_eq_getElem hi
        obtain ⟨kx, rx⟩ := hY i xs[i] H2 (OO (addO O D) ph2) ph2 x H3 hC2 (fun p hpn => fresh_oo L.env.tr L.hand hpn) ex y
        have xt : Ext ph2 H2 H3 := fun b o _ e => kx b o e
        have hh3 : HandOk X.K c.cm H3 (addO O D) ph2 w2 := L.hand.keep (Ext.keep xt .refl) fun p _ o e => kx p o e
        have L3 := L.ext xt .refl hh3
        have hC3 := F.stay hC2 (Ext.keep xt .refl) (fun _ e => e)
        have hp3 := hp2.ext (del_ext (D := D) xt) .refl
        have ed : xs.drop i = xs[i] :: xs.drop (i + 1) := List.drop_eq_getElem_cons hi
        rw [ed] at hp3
        cases eg : g xs[i] (wipeE ρ (own.map (·.2))) with
        | none => unfold lcL at hp3; rw [eg] at hp3; exact (show False from hp3).elim
        | some ρ1 =>
          obtain ⟨ts, e2, hts, hq⟩ := hG rx eg
          refine hq (L2.wipe σ (own.map (·.2))) _ ?_
          refine ⟨wipe_puts fun t m => (hts t m).1, addO O D, ρ1, ph2, w2, ?_⟩
          have E3 : EnvE X.K c.cm c.xa (addO O D) H3 ph2 ρ1 (putS ts (L2.wipe σ (own.map (·.2)))) := by rw [e2]; exact L3.env.puts ts fun t m => (hts t m).2
          refine ⟨E3, hh3, ?_⟩
          cases et : t ρ1 w2 with
          | ex => rw [lcL_badt eg (by rw [et]; intro _ _ z; cases z)] at hp3; exact (show False from hp3).elim
          | bad => rw [lcL_badt eg (by rw [et]; intro _ _ z; cases z)] at hp3; exact (show False from hp3).elim
          | ok k w3 =>
            intro b H4 ph4 x4 s4 k4 eb
            cases eb
            have L4 := L3.ext x4 s4 k4
            have hC4 := F.stay hC3 (Ext.keep x4 s4) s4.m
            have hp4 := hp3.ext (del_ext (D := D) x4) (del_phs s4)
            cases k with
            | false =>
              rw [lcL_false eg et] at hp4
              obtain ⟨vs, h1', h2', h3'⟩ := L4.acc
              exact ⟨ds, ph4, w3, ⟨L4.env, L4.hand, vs, h1', h2', Nat.le_succ_of_le h3'⟩, hC4, hp4⟩
            | true =>
              refine ⟨addO O D, ρ1, ph4, w3, E3.ext x4 s4, k4, ?_⟩
              cases ee : fe ρ1 w3 with
              | ex => rw [lcL_bade eg et (by rw [ee]; intro _ _ z; cases z)] at hp4; exact (show False from hp4).elim
              | bad => rw [lcL_bade eg et (by rw [ee]; intro _ _ z; cases z)] at hp4; exact (show False from hp4).elim
              | ok d w5 =>
                rw [lcL_true eg et ee] at hp4
                intro v H5 ph5 x5 s5 k5 rv
                have L5 := L4.ext x5 s5 k5
                have hC5 := F.stay hC4 (Ext.keep x5 s5) s5.m
                have hp5 := hp4.ext (del_ext (D := D) x5) (del_phs s5)
                obtain ⟨vs, h1', h2', h3'⟩ := L5.acc
                refine ⟨vs, h1', by rw [sizeLine_eq]; unfold line at hl; omega, ds ++ [d], ph5, w5, L5.app nd h1' h2' h3' rv, F.stay hC5 addO_upd (fun _ e => e), ?_⟩
                have e9 : delD (upd H5 D (.lst (vs ++ [v]))) D = delD H5 D := by
                  funext b
                  by_cases z : b = D
                  · subst z; rw [delD_same, delD_same]
                  · rw [delD_ne z, delD_ne z, upd_ne z]
                rw [e9]
                have e10 : (fun ys : List FL.D => M.ret (ds ++ d :: ys)) = fun ys => M.ret (ds ++ [d] ++ ys) := by
                  funext ys
                  rw [List.append_assoc]; rfl
                rw [e10] at hp5
                exact hp5
      · rintro H2 ⟨ds, ph2, w2, L, hC2, hp2⟩
        rw [List.drop_length] at hp2
        have hp3 : Post1 X.K c.cm O (relL X.K c.cm O) c.Wx σ ph2 (delD H2 D) (fun vs H1 => ∀ p, H1 p = none → Q (.ref p) (upd H1 p (.lst vs))) (.ok ds w2) := by
          have e : M.bind (lcL g t fe (wipeE ρ (own.map (·.2))) []) (fun ys => M.ret (ds ++ ys)) w2 = .ok ds w2 := by
            show R.ok (ds ++ []) w2 = _
            rw [List.append_nil]
          rw [← e]; exact hp2
        obtain ⟨vs, h1', h2', _⟩ := L.acc
        have nph : ph2 ≠ some D := (L.env.tr D (.inr rfl)).1
        have := hp3 vs (delD H2 D) ph2 .refl .refl (L.hand.keep addO_keep fun p e u z => by rw [delD_ne (fun y => nph (by rw [← y]; exact e))]; exact z) (h2'.keep addO_keep (fun _ e => e) ds vs) D delD_same
        rw [upd_del h1'] at this
        exact this
    · simp only [if_neg hl] at h1; exact h1.no
theorem pnx_lc {elt tg iter : Expr} {ifs : List Expr} {scope : Scope} {own : List (Str × Nat)} {f : IF} {g : GF} {gt : TG} {is : List Nat} {t : TF} {fe : EF} (hc : X.calm = true) (hN : X.N.Nodup) (hi : PIX X c tg iter f) (ok : L2.BlkOk X.N X.env.scope scope own) (his : own.map (·.2) = is)
    (hg : ∀ (s : Shared) (H : Hp) (C : Addr) (cl : List (Str × Addr)) (fp : List Addr), PG (X.blk s H scope (compEnvC scope cl C X.env) fp) tg gt) (hG : TGX X.K c.cm g gt is)
    (ht : ∀ (s : Shared) (H : Hp) (C : Addr) (cl : List (Str × Addr)) (fp : List Addr), L2.PTs (X.blk s H scope (compEnvC scope cl C X.env) fp) ifs (tTX X.K c.cm c.xa noW t))
    (he : ∀ (s : Shared) (H : Hp) (C : Addr) (cl : List (Str × Addr)) (fp : List Addr), PE (X.blk s H scope (compEnvC scope cl C X.env) fp) elt (tX X.K c.cm c.xa noW fe)) (hs : ∀ x, foldedSetIterable iter X.env x = pure x := by intro _; rfl) :
    PNX X c (.ListComp elt [⟨tg, iter, ifs, 0⟩] scope pos) (nLc f is g t fe) :=
  PE.to (L2.pe_lc hc hN hi ok hg ht he hs) (lc_read his hG)
end
end FL

/-! F8: a def by its body; raise, try. -/
namespace FL
open PySem
open L2 (V Hp HO Cx Inv VK XK TE TT TA TS TI TG PE PT PA PS PSs PI PG Ends WX RelV Vals Rd upd upd_same upd_ne ne_of_none EP TP AP OpR R2 CallR FnOk Room Binds)

/-! ### a def -/
section
variable {P : Program} {w : World} {K : PySem.W.Frag} {mg : Str → Option Value} {base : Heap} {cm : Nat → Addr}
theorem vals_get {ds : List D} {n : Nat} {i : Nat} {s : Slot} (e : (vals ds ++ List.replicate n Slot.none)[i]? = some s) : (∃ d, ds[i]? = some d ∧ s = .val d) ∨ s = .none := by
  unfold vals at e
  by_cases h : i < ds.length
  · rw [List.getElem?_append_left (by simpa using h), List.getElem?_map] at e
    rw [List.getElem?_eq_getElem h] at e
    cases e
    exact .inl ⟨_, List.getElem?_eq_getElem h, rfl⟩
  · rw [List.getElem?_append_right (by simp; omega), List.getElem?_replicate] at e
    split at e
    · cases e; exact .inr rfl
    · cases e
theorem own_vals {O : NS} {ds : List D} {n : Nat} {σ : St} {a : Addr} : OwnS O (vals ds ++ List.replicate n Slot.none) σ a → O a := fun h => by
  rcases h with h | ⟨i, xs, e, _⟩
  · exact h
  · rcases vals_get e with ⟨d, _, z⟩ | z <;> cases z
theorem start_sts {H : Hp} {O : NS} {ph : Option Addr} {wd : Wd} {ds : List D} {vs : List V} {N : List Str} (hl : ds.length ≤ N.length) (tr : OTr H O ph) (hand : HandOk K cm H O ph wd) (r : RepL K cm H (OO O ph) ph ds vs) :
    StS K cm none ⟨H, O, ph⟩ (vals ds ++ List.replicate (N.length - ds.length) Slot.none) ph wd (L2.start N vs) H := by
  have l := r.length
  have no : ∀ a, O a → OwnS O (vals ds ++ List.replicate (N.length - ds.length) Slot.none) (L2.start N vs) a := fun _ x => .inl x
  refine ⟨⟨?_, fun i s x e1 e2 => ?_, tr.less fun _ => own_vals⟩, hand.less fun _ => own_vals, .refl, .refl, tr, fun i j p xs ys e => ?_, fun i p xs e => ?_, fun i es v e => ?_⟩
  · unfold L2.start vals; simp; omega
  · rcases vals_get e1 with ⟨d, ed, es⟩ | es
    · subst es
      obtain ⟨v, ev, rv⟩ := r.get ed
      have hi : i < vs.length := (List.getElem?_eq_some_iff.mp ev).1
      unfold L2.start at e2
      rw [List.getElem?_append_left (by simpa using hi), List.getElem?_map, ev] at e2
      cases e2
      exact ⟨v, rfl, rv.keep (Keep.less (OO.mono fun _ => own_vals)) (fun _ e => e) d v⟩
    · subst es; trivial
  · rcases vals_get e with ⟨d, _, z⟩ | z <;> cases z
  · rcases vals_get e with ⟨d, _, z⟩ | z <;> cases z
  · rcases vals_get e with ⟨d, _, z⟩ | z <;> cases z
theorem fn_ok {x qual : Str} {params : Arguments} {body : List Stmt} {scope : Scope} {dvs : List V} {kws : List (Str × V)} {f : Addr} {fd : FuncData} {N ps : List Str} {k : Nat} {b : SF} (F : L2.FunD K x qual params body scope dvs kws f fd) (S : L2.FnScope N ps scope)
    (hn : ps.length ≤ N.length)
    (hb : ∀ (cdv : Value) (A : Around) (outer : List PySem.Env) (s : Shared) (H : Hp) (E : XK) (q : Sq), Room k (A.deeper (PyProof.Rows.envOfC qual scope s.heap.objs.size f cdv)) →
      PSSX (L2.cxOf (L2N.CX P w) P w K mg base N qual scope f cdv A outer s H E) ⟨cm, none, fun cls d _ H' => E cls d H'⟩ q body b) :
    FnOk P w K mg base (L2N.CX P w) (k + 1) f fd ps (spX K cm ps.length (callF N.length b)) := by
  refine F.ok S (fun vs H Q E h => h.1) fun cdv A outer s H vs Q E hr h => ?_
  obtain ⟨hl, O, ds, ph, wd, tr, hand, r, post⟩ := h
  refine ⟨_, hb cdv A outer s H E ⟨H, O, ph⟩ hr, vals ds ++ List.replicate (N.length - ds.length) Slot.none, ph, wd, start_sts (by rw [r.length, hl]; exact hn) tr hand r, ?_⟩
  unfold callF at post
  cases e : b (vals ds ++ List.replicate (N.length - ds.length) Slot.none) wd with
  | nx ρ' w' =>
    rw [e] at post
    intro σ' H' ph' s1 k1
    exact post .non H' ph' s1.base s1.phs (s1.hand.less fun _ z => .inl z) (by simp [Rep])
  | rt d w' =>
    rw [e] at post
    intro v H' ph' x1 s1 hk rv
    exact post v H' ph' x1 s1 hk rv
  | ex c ns xs ρ' w' =>
    rw [e] at post
    intro σ' H' ph' dd vs s1 k1 hd l rv
    exact post dd H' ph' vs s1.base s1.phs (s1.hand.less fun _ z => .inl z) hd l (rv.keep (Keep.less (OO.mono fun _ z => .inl z)) (fun _ e => e) xs vs)
  | bk ρ' w' => rw [e] at post; exact (show False from post).elim
  | ct ρ' w' => rw [e] at post; exact (show False from post).elim
  | bad => rw [e] at post; exact (show False from post).elim
end

/-! ### exceptions that keep their arguments -/
section
variable {P : Program} {w : World} {K : PySem.W.Frag} {mg : Str → Option Value} {base : Heap} {cm : Nat → Addr}
/-- an __init__ that stores its arguments under the names ns -/
def spI (K : PySem.W.Frag) (ns : List Str) (m : Nat) : L2.Sp := fun vs H Q _ => vs.length = m ∧ ∃ (a C : Addr) (xs : List V), vs = .ref a :: xs ∧ xs.length = ns.length ∧ L2.OexC K C ∧ H a = some (L2.exo a C none) ∧ (∀ n, n ∈ ns → PySem.W.findIn K (.ref C) n = some none) ∧
  ∀ (dx : Addr) (H2 : Hp), H dx = none → dx ≠ a → H2 dx = some (L2.exd dx (ns.zip xs).reverse) → H2 a = some (L2.exo a C (some dx)) → (∀ b, b ≠ a → b ≠ dx → H2 b = H b) → Q .non H2
section
variable {x qual : Str} {params : Arguments} {scope : Scope} {f : Addr} {fd : FuncData} {N ps : List Str} {n0 n1 n2 n3 f1 f2 f3 : Str} {p1 p2 p3 p4 p5 p6 p7 p8 p9 q1 q2 q3 : Pos}
theorem init1_ok (F : L2.FunD K x qual params [.Assign [.Attribute (.Name n0 p1) f1 p2] (.Name n1 p3) p4] scope [] [] f fd) (S : L2.FnScope [n0, n1] ps scope) (hps : ps.length = 2)
    (v0 : L2.Vis scope n0) (v1 : L2.Vis scope n1) (d0 : (n0 == ("__debug__" : Str)) = false) (d1 : (n1 == ("__debug__" : Str)) = false) (c0 : (n0 == ("__classdict__" : Str)) = false) (c1 : (n1 == ("__classdict__" : Str)) = false)
    (hsw : ∀ env : PySem.Env, swapsWith (.Name n1 p3) (some (.Attribute (.Name n0 p1) f1 p2)) p4.line env = pure false) : FnOk P w K mg base (L2N.CX P w) 1 f fd ps (spI K [f1] 2) := by
  refine F.ok S (fun vs H Q E h => by rw [h.1, hps]) fun cdv A outer s H vs Q E hr h => ⟨_, L2.pss_one (L2.ps_ost (L2.pe_var (i := 0) rfl v0 d0 c0) (L2.pe_var (i := 1) rfl v1 d1 c1) (hsw _)), ?_⟩
  obtain ⟨hl, a, C, xs, ev, hx, T, ha, hno, hq⟩ := h
  subst ev
  match xs, hx with
  | [y], _ =>
    refine ⟨y, rfl, .ref a, rfl, a, C, rfl, T, hno f1 (List.mem_cons_self ..), .inl ⟨ha, fun dx hn ne => hq dx _ hn ne ?_ ?_ fun b b1 b2 => ?_⟩⟩
    · rw [upd_ne ne, upd_same]; rfl
    · rw [upd_same]
    · rw [upd_ne b1, upd_ne b2]
theorem init2_ok (F : L2.FunD K x qual params [.Assign [.Attribute (.Name n0 p1) f1 p2] (.Name n1 p3) p4, .Assign [.Attribute (.Name n0 p5) f2 p6] (.Name n2 p7) p8] scope [] [] f fd) (S : L2.FnScope [n0, n1, n2] ps scope) (hps : ps.length = 3)
    (v0 : L2.Vis scope n0) (v1 : L2.Vis scope n1) (v2 : L2.Vis scope n2) (d0 : (n0 == ("__debug__" : Str)) = false) (d1 : (n1 == ("__debug__" : Str)) = false) (d2 : (n2 == ("__debug__" : Str)) = false) (c0 : (n0 == ("__classdict__" : Str)) = false) (c1 : (n1 == ("__classdict__" : Str)) = false) (c2 : (n2 == ("__classdict__" : Str)) = false)
    (hs1 : ∀ env : PySem.Env, swapsWith (.Name n1 p3) (some (.Attribute (.Name n0 p1) f1 p2)) p4.line env = pure false) (hs2 : ∀ env : PySem.Env, swapsWith (.Name n2 p7) (some (.Attribute (.Name n0 p5) f2 p6)) p8.line env = pure false) : FnOk P w K mg base (L2N.CX P w) 1 f fd ps (spI K [f1, f2] 3) := by
  refine F.ok S (fun vs H Q E h => by rw [h.1, hps]) fun cdv A outer s H vs Q E hr h => ⟨_, L2.pss_cons (L2.ps_ost (L2.pe_var (i := 0) rfl v0 d0 c0) (L2.pe_var (i := 1) rfl v1 d1 c1) (hs1 _)) (L2.pss_one (L2.ps_ost (L2.pe_var (i := 0) rfl v0 d0 c0) (L2.pe_var (i := 2) rfl v2 d2 c2) (hs2 _))), ?_⟩
  obtain ⟨hl, a, C, xs, ev, hx, T, ha, hno, hq⟩ := h
  subst ev
  match xs, hx with
  | [y, z], _ =>
    refine ⟨y, rfl, .ref a, rfl, a, C, rfl, T, hno f1 (List.mem_cons_self ..), .inl ⟨ha, fun dx hn ne => ?_⟩⟩
    refine ⟨z, rfl, .ref a, rfl, a, C, rfl, T, hno f2 (List.mem_cons_of_mem _ (List.mem_cons_self ..)), .inr ⟨dx, [(f1, y)], upd_same, by rw [upd_ne ne, upd_same], by simp, hq dx _ hn ne ?_ ?_ fun b b1 b2 => ?_⟩⟩
    · rw [upd_same]; rfl
    · rw [upd_ne (Ne.symm ne), upd_same]
    · rw [upd_ne b2, upd_ne b1, upd_ne b2]
end
/-- what one knows of an own exception class -/
structure ExcK (K : PySem.W.Frag) (mg : Str → Option Value) (base : Heap) (P : Program) (w : World) (x : Str) (C fI : Addr) (fd : FuncData) (ps : List Str) (ns : List Str) : Prop where
  T : L2.OexC K C
  iC : PySem.W.findIn K (.ref C) "__init__" = some (some (.ref fI))
  tI : PySem.W.typeIn K (.ref fI) = some (.type "function")
  F : FnOk P w K mg base (L2N.CX P w) 1 fI fd ps (spI K ns (ns.length + 1))
  hb : Binds K fd ps []
  hm : mg x = some (.ref C)
  hno : ∀ n, n ∈ ns → PySem.W.findIn K (.ref C) n = some none
end
section
variable {X : Cx} {c : Cfg} {q : Sq} {pos : Pos} {e : Expr} {fe : EF} {st : Stmt} {sts : List Stmt} {s t : SF}
theorem evs_run2 {K : PySem.W.Frag} {cm : Nat → Addr} {xa : Option (Addr × Nat × Addr)} {Wx : WX} {q : Sq} {ρ : Env} {σ : St} {ph : Option Addr} {H : Hp} {w : Wd} {D : Ends} {fs : List EF} {k : List FL.D → Wd → SR} (h : StS K cm xa q ρ ph w σ H) (hp : Post2 K cm xa q Wx D H (NN q ρ σ ph) ph (onE (evs fs ρ) ρ w k)) :
    Run K cm xa (OwnS q.O0 ρ σ) (relL K cm (OwnS q.O0 ρ σ)) Wx ρ σ ph H w (evs fs ρ) (fun vs H1 => ∃ ds ph1 w1, ds.length = fs.length ∧ RepL K cm H1 (NN q ρ σ ph1) ph1 ds vs ∧ StS K cm xa q ρ ph1 w1 σ H1 ∧ Kp H (NN q ρ σ ph) ph H1 (NN q ρ σ ph1) ph1 ∧ Post2 K cm xa q Wx D H1 (NN q ρ σ ph1) ph1 (k ds w1)) := by
  refine ⟨h.env, h.hand, ?_⟩
  unfold onE at hp
  cases e : evs fs ρ w with
  | ok ds w1 =>
    rw [e] at hp
    intro vs H1 ph1 x s hk r
    have kk : Kp H (NN q ρ σ ph) ph H1 (NN q ρ σ ph1) ph1 := ⟨Ext.keep x s, s.m⟩
    exact ⟨ds, ph1, w1, evs_len _ _ _ _ e, r, h.ext x s hk, kk, hp.keep kk⟩
  | ex c ns xs w1 =>
    rw [e] at hp
    intro dd H1 ph1 vs x s hk hd l r
    exact hp σ H1 ph1 dd vs (h.ext x s hk) ⟨Ext.keep x s, s.m⟩ hd l r
  | bad => rw [e] at hp; exact hp
theorem psx_raise {x : Str} {p pos' : Pos} {es : List Expr} {fs : List EF} {C fI : Addr} {fd : FuncData} {ps ns : List Str} (k : Nat) (G : ExcK X.K X.mg X.base X.prog X.w x C fI fd ps ns) (hC : c.cm k = C) (hc : X.calm = true) (tk : L2N.Takes X c.Wx) (hr : Room 2 X.A) (hg : L2.Gl X x)
    (ha : PAX X c (e :: es) fs) (hn : fs.length = ns.length := by rfl) (hl : ns.length ≤ 1000 := by decide) (hdb : (x == ("__debug__" : Str)) = false := by decide) (he : starEach (e :: es) X.env = (false, eval e X.env) :: starEach es X.env := by rfl) (hpl : (backTo pos (starEach es X.env)).any (·.1) = false := by rfl) :
    PSX X c q (.Raise (some (.Call (.Name x p) (e :: es) [] pos)) none pos') (sRaise k ns fs) := by
  refine PS.to (L2N.ps_raise hc tk (pmkN G.T G.iC G.tI G.F hr G.hb .nil passN hg G.hm ha hdb he hpl)) fun D σ H ⟨ρ, ph, w, h, hp⟩ => ?_
  refine ⟨_, ρ, ph, w, (evs_run2 h hp).imp fun vs H1 ⟨ds, ph1, w1, l, r, h1, k1, hp1⟩ => ?_⟩
  have lv : vs.length = ns.length := by rw [← r.length, l, hn]
  refine ⟨by omega, fun a hna => ⟨by simp [lv], a, C, vs, by simp, lv, G.T, upd_same, G.hno, fun dx H2 hdx ne e1 e2 e3 => ⟨rfl, dx, (ns.zip vs).reverse, e2, e1, ?_, ?_⟩⟩⟩
  · rw [upd_ne ne] at hdx; exact hdx
  · have hdx' : H1 dx = none := by rw [upd_ne ne] at hdx; exact hdx
    have eH : upd (L2.del H2 a) dx (.xd (ns.zip vs).reverse) = upd H1 dx (.xd (ns.zip vs).reverse) := by
      funext b
      by_cases b2 : b = dx
      · subst b2; rw [upd_same, upd_same]
      · rw [upd_ne b2, upd_ne b2]
        by_cases b1 : b = a
        · subst b1; rw [L2.del_same, hna]
        · rw [L2.del_ne b1, e3 b b1 b2, upd_ne b1]
    rw [eH, ← hC]
    have k2 : Keep H1 (NN q ρ σ ph1) (upd H1 dx (.xd (ns.zip vs).reverse)) (NN q ρ σ ph1) := Ext.keep (ext_new hdx') .refl
    exact hp1 σ _ ph1 dx vs (h1.ext (ext_new hdx') .refl (h1.hand.new hdx')) k2.kp upd_same lv.symm (r.keep k2 (fun _ e => e) ds vs)
end
end FL

/-! F9: try, the fields of a caught error, calls with keywords. -/
namespace FL
open PySem
open L2 (V Hp HO Cx Inv VK XK TE TT TA TS TI TG PE PT PA PS PSs PI PG Ends WX RelV Vals Rd upd upd_same upd_ne ne_of_none EP TP AP OpR R2 CallR FnOk Room Binds)

section
variable {K : PySem.W.Frag} {cm : Nat → Addr} {xa xb : Option (Addr × Nat × Addr)} {q : Sq} {ρ ρ' : Env} {σ : St} {H H' : Hp} {N N1 : NS} {ph ph' : Option Addr} {w w' : Wd} {Wx : WX} {D : Ends} {O : NS}
theorem SlotR.free {s : Slot} {x : Option V} (h : SlotR K cm none O H ph s x) : SlotR K cm xb O H ph s x := by
  cases s with
  | none => trivial
  | val d => exact h
  | own ds => exact h
  | nest ds => exact h
  | exc c ns ds => obtain ⟨a, dd, vs, _, z, _⟩ := h; cases z
  | slf => obtain ⟨_, _, _, _, z⟩ := h; cases z
theorem StS.free (h : StS K cm none q ρ ph w σ H) : StS K cm xb q ρ ph w σ H :=
  ⟨⟨h.env.len, fun i s x e1 e2 => (h.env.at_ i s x e1 e2).free, h.env.tr⟩, h.hand, h.base, h.phs, h.o0, h.inj, h.fresh, h.news⟩
theorem StS.xd_new {a dd : Addr} {o : List (Str × V)} (h : StS K cm xa q ρ ph w σ H) (e : H dd = some (.xd o)) : ¬ NN q ρ σ ph dd := fun z => by
  rcases z with z | z
  · obtain ⟨_, vs, y, k⟩ := h.env.tr dd z
    rw [e] at y; cases y
    rcases k with ⟨_, k⟩ | ⟨_, _, _, k⟩ <;> cases k
  · obtain ⟨vs, y⟩ := h.hand.tr z
    rw [e] at y; cases y
/-- the caught error, in slot i -/
theorem StS.exc {i c : Nat} {ns : List Str} {xs : List FL.D} {a dd : Addr} {vs : List V} (h : StS K cm none q ρ ph w σ H) (e : H dd = some (.xd (ns.zip vs).reverse)) (l : ns.length = vs.length) (r : RepL K cm H (NN q ρ σ ph) ph xs vs) :
    StS K cm (some (a, c, dd)) q (ρ.set i (.exc c ns xs)) ph w (σ.set i (some (.ref a))) H :=
  StS.setv (fun _ z => by cases z) ⟨a, dd, vs, rfl, rfl, h.xd_new (a := a) e, e, l, r⟩ h.free
theorem own_wipe {a : Addr} : OwnS q.O0 (wipeX ρ) σ a → OwnS q.O0 ρ σ a := fun z => by
  rcases z with z | ⟨i, xs, e1, e2⟩
  · exact .inl z
  · unfold wipeX at e1
    rw [List.getElem?_map] at e1
    cases e : ρ[i]? with
    | none => rw [e] at e1; cases e1
    | some s =>
      rw [e] at e1
      cases s with
      | own ys => exact .inr ⟨i, ys, e, e2⟩
      | nest ys => cases e1
      | none => cases e1
      | val d => cases e1
      | exc c ns ds => cases e1
      | slf => cases e1
theorem wipe_own {i : Nat} {xs : List FL.D} (e1 : (wipeX ρ)[i]? = some (.own xs)) : ρ[i]? = some (.own xs) := by
  unfold wipeX at e1
  rw [List.getElem?_map] at e1
  cases e : ρ[i]? with
  | none => rw [e] at e1; cases e1
  | some s =>
    rw [e] at e1
    cases s with
    | own ys => cases e1; rfl
    | nest ys => cases e1
    | none => cases e1
    | val d => cases e1
    | exc c ns ds => cases e1
    | slf => cases e1
theorem wipe_nest {i : Nat} {xs : List FL.D} (e1 : (wipeX ρ)[i]? = some (.nest xs)) : ρ[i]? = some (.nest xs) := by
  unfold wipeX at e1
  rw [List.getElem?_map] at e1
  cases e : ρ[i]? with
  | none => rw [e] at e1; cases e1
  | some s =>
    rw [e] at e1
    cases s with
    | nest ys => cases e1; rfl
    | own ys => cases e1
    | none => cases e1
    | val d => cases e1
    | exc c ns ds => cases e1
    | slf => cases e1
theorem own_wipe2 {a : Addr} : OwnS q.O0 ρ σ a → OwnS q.O0 (wipeX ρ) σ a := fun z => by
  rcases z with z | ⟨i, xs, e1, e2⟩
  · exact .inl z
  · exact .inr ⟨i, xs, by unfold wipeX; rw [List.getElem?_map, e1]; rfl, e2⟩
theorem StS.wipe (h : StS K cm xa q ρ ph w σ H) : StS K cm none q (wipeX ρ) ph w σ H := by
  have kk : Keep H (NN q ρ σ ph) H (NN q (wipeX ρ) σ ph) := Keep.less (OO.mono fun _ => own_wipe)
  refine ⟨⟨by unfold wipeX; simp [h.env.len], fun i s x e1 e2 => ?_, h.env.tr.less fun _ => own_wipe⟩, h.hand.less fun _ => own_wipe, h.base, h.phs, h.o0, fun i j p xs ys e1 e2 => h.inj i j p xs ys (wipe_own e1) (wipe_own e2), fun i p xs e1 => h.fresh i p xs (wipe_own e1), fun i es v e1 => h.news i es v (wipe_nest e1)⟩
  unfold wipeX at e1
  rw [List.getElem?_map] at e1
  cases e : ρ[i]? with
  | none => rw [e] at e1; cases e1
  | some t =>
    rw [e] at e1
    have hh := h.env.at_ i t x e e2
    cases t with
    | none => cases e1; trivial
    | val d => cases e1; exact SlotR.keep (s := .val d) kk (fun _ e => e) (fun _ _ z => by cases z) hh
    | nest d => cases e1; exact SlotR.keep (s := .nest d) kk (fun _ e => e) (fun _ _ z => by cases z) hh
    | own ds =>
      cases e1
      exact SlotR.keep (s := .own ds) kk (fun _ e => e) (fun ds' p z ex o => ⟨own_wipe2 o, fun _ y => y⟩) hh
    | exc c ns ds => cases e1; trivial
    | slf => cases e1; trivial
theorem keep_wipe : Keep H (NN q ρ σ ph) H (NN q (wipeX ρ) σ ph) := Keep.less (OO.mono fun _ => own_wipe)
end

section
variable {X : Cx} {c : Cfg} {q : Sq} {pos : Pos} {e : Expr} {fe : EF} {st : Stmt} {sts : List Stmt} {s t : SF}
/-- the suite's reading -/
def tSu (K : PySem.W.Frag) (cm : Nat → Addr) (q : Sq) (cs : List Nat) (s : SF) (a : Addr) (cls : Value) (d : Option Addr) : TS := fun D σ H => ∃ k dd, k ∈ cs ∧ cls = .ref (cm k) ∧ d = some dd ∧ tS K cm (some (a, k, dd)) q noW s D σ H
theorem psx_try {x n : Str} {np pos' : Pos} {i : Nat} {body suite : List Stmt} {b0 : Stmt} {C : Addr} {sb su : SF} (cs ks : List Nat) (hxa : c.xa = none) (hs : X.stack = X.env :: X.outer) (hf : X.env.frame = some X.env.locals) (hN : X.N.Nodup) (hi : X.N[i]? = some n) (hln : X.env.kindOf n = some .local)
    (hc : L2.Names X x (.ref C)) (tk : L2N.Takes X c.Wx)
    (yes : ∀ k, k ∈ cs → PySem.W.exmOne X.K (.ref (c.cm k)) (.ref C) = some true) (no : ∀ k, k ∈ ks → PySem.W.exmOne X.K (.ref (c.cm k)) (.ref C) = some false)
    (hb : ∀ (W : WX) (pn : List (Addr × Obj)) (xe : Value → Shared → Prop), L2N.Takes (X.tr pn xe) W → PassesOwn (model X.prog X.w) X.A X.env xe → PSSX (X.tr pn xe) ⟨c.cm, none, W⟩ q body sb)
    (hsu : ∀ (a : Addr) (oe : Obj) (k : Nat) (dd : Addr) (pn : List (Addr × Obj)), k ∈ cs → L2N.Zn (.ref (c.cm k)) (some dd) oe → (∃ vs, oe.data = .fields vs) → PSSX (X.suite a ((a, oe) :: pn)) ⟨c.cm, some (a, k, dd), noW⟩ q (b0 :: suite) su) :
    PSX X c q (.Try body [.ExceptHandler (some (.Name x np)) (some n) (b0 :: suite) pos'] [] [] pos) (sTry sb cs ks i su) := by
  refine PS.to (L2N.ps_try_as (tb := fun W => tS X.K c.cm none q W sb) (ts := fun a cls d => tSu X.K c.cm q cs su a cls d) (Wout := c.Wx) hs hf hN hi hln hc tk hb fun a oe cls d pn hz hv => ?_) fun D σ H ⟨ρ, ph, w, h, hp⟩ => ?_
  · refine ⟨fun pins s σ H D I hh => ?_⟩
    obtain ⟨k, dd, hk, rfl, rfl, hh⟩ := hh
    exact (hsu a oe k dd pn hk hz hv).run pins s σ H D I hh
  · rw [hxa] at h hp
    refine ⟨ρ, ph, w, h, ?_⟩
    unfold sTry at hp
    cases er : sb ρ w with
    | nx ρ' w' => rw [er] at hp; exact hp
    | rt d w' => rw [er] at hp; exact hp
    | bk ρ' w' => rw [er] at hp; exact hp
    | ct ρ' w' => rw [er] at hp; exact hp
    | bad => rw [er] at hp; exact hp
    | ex c0 ns xs ρ' w' =>
      rw [er] at hp
      intro σ' H' ph' dd vs h1 k1 hd l r
      simp only at hp
      by_cases hm : c0 ∈ cs
      · rw [if_pos hm] at hp
        refine ⟨true, yes c0 hm, fun _ a ha => ⟨c0, dd, hm, rfl, rfl, ρ'.set i (.exc c0 ns xs), ph', w', h1.exc hd l r, ?_⟩, fun z => Bool.noConfusion z⟩
        have kx : Kp H (NN q ρ σ ph) ph H' (NN q (ρ'.set i (.exc c0 ns xs)) (σ'.set i (some (.ref a))) ph') ph' := k1.trans (keep_set fun _ z => by cases z).kp
        have back : ∀ (ρ2 : Env) (σ2 : St) (H2 : Hp) (ph2 : Option Addr) (w2 : Wd), StS X.K c.cm (some (a, c0, dd)) q ρ2 ph2 w2 σ2 H2 → Kp H' (NN q (ρ'.set i (.exc c0 ns xs)) (σ'.set i (some (.ref a))) ph') ph' H2 (NN q ρ2 σ2 ph2) ph2 →
            StS X.K c.cm none q (wipeX (ρ2.set i .none)) ph2 w2 (σ2.set i none) H2 ∧ Kp H (NN q ρ σ ph) ph H2 (NN q (wipeX (ρ2.set i .none)) (σ2.set i none) ph2) ph2 := fun ρ2 σ2 H2 ph2 w2 s2 k2 =>
          ⟨(StS.setv (s := .none) (x := none) (fun _ z => by cases z) trivial s2).wipe, kx.trans (k2.trans ((keep_set (s := .none) fun _ z => by cases z).kp.trans keep_wipe.kp))⟩
        unfold suiteK at hp
        cases e2 : su (ρ'.set i (.exc c0 ns xs)) w' with
        | nx ρ2 w2 =>
          rw [e2] at hp
          intro σ2 H2 ph2 s2 k2
          obtain ⟨s3, k3⟩ := back ρ2 σ2 H2 ph2 w2 s2 k2
          exact hp _ H2 ph2 s3 k3
        | bk ρ2 w2 =>
          rw [e2] at hp
          intro σ2 H2 ph2 s2 k2
          obtain ⟨s3, k3⟩ := back ρ2 σ2 H2 ph2 w2 s2 k2
          exact hp _ H2 ph2 s3 k3
        | ct ρ2 w2 =>
          rw [e2] at hp
          intro σ2 H2 ph2 s2 k2
          obtain ⟨s3, k3⟩ := back ρ2 σ2 H2 ph2 w2 s2 k2
          exact hp _ H2 ph2 s3 k3
        | rt d w2 => rw [e2] at hp; exact hp
        | ex c2 ns2 xs2 ρ2 w2 => rw [e2] at hp; exact (show False from hp).elim
        | bad => rw [e2] at hp; exact (show False from hp).elim
      · rw [if_neg hm] at hp
        by_cases hm2 : c0 ∈ ks
        · rw [if_pos hm2] at hp
          exact ⟨false, no c0 hm2, fun z => Bool.noConfusion z, fun _ => hp σ' H' ph' dd vs h1 k1 hd l r⟩
        · rw [if_neg hm2] at hp
          exact (show False from hp).elim

/-! a field of the caught error -/
theorem look_rep {K : PySem.W.Frag} {cm : Nat → Addr} {H : Hp} {N : NS} {ph : Option Addr} {f : Str} : ∀ {ns : List Str} {xs : List FL.D} {vs : List V} {d : FL.D} {rest : List (Str × V)}, RepL K cm H N ph xs vs → fldOf f ns xs = some d → ∃ v, ((ns.zip vs).reverse ++ rest).lookup f = some v ∧ Rep K cm H N ph d v
  | [], _, _, _, _, _, e => by simp [fldOf] at e
  | n :: ns, [], _, _, _, _, e => by simp [fldOf] at e
  | n :: ns, x :: xs, vs, d, rest, r, e => by
    obtain ⟨v, vs', rfl, r1, r2⟩ := r.uncons
    simp only [List.zip_cons_cons, List.reverse_cons, List.append_assoc, List.cons_append, List.nil_append]
    rw [fldOf] at e
    cases e2 : fldOf f ns xs with
    | some d' =>
      rw [e2] at e
      cases e
      exact look_rep r2 e2
    | none =>
      rw [e2] at e
      simp only at e
      by_cases hn : n = f
      · rw [if_pos hn] at e
        cases e
        have key : ∀ (ns : List Str) (xs : List FL.D) (vs : List V), RepL K cm H N ph xs vs → fldOf f ns xs = none → ∀ rest : List (Str × V), ((ns.zip vs).reverse ++ rest).lookup f = rest.lookup f := by
          intro ns
          induction ns with
          | nil => intro xs vs _ _ rest; simp
          | cons m ms ih =>
            intro xs vs r e rest
            cases xs with
            | nil => cases r.unnil; simp
            | cons y ys =>
              obtain ⟨u, us, rfl, q1, q2⟩ := r.uncons
              simp only [List.zip_cons_cons, List.reverse_cons, List.append_assoc, List.cons_append, List.nil_append]
              rw [fldOf] at e
              cases e3 : fldOf f ms ys with
              | some d' => rw [e3] at e; simp at e
              | none =>
                rw [e3] at e
                simp only at e
                rw [ih ys us q2 e3]
                by_cases hm : m = f
                · rw [if_pos hm] at e; cases e
                · have : (f == m) = false := by simpa using fun z => hm z.symm
                  simp [List.lookup, this]
        rw [key ns xs vs' r2 e2]
        subst hn
        exact ⟨v, by simp [List.lookup], r1⟩
      · rw [if_neg hn] at e; cases e
theorem px_xf {a : Addr} {oe : Obj} {k : Nat} {dd : Addr} {pn : List (Addr × Obj)} {i : Nat} {x f : Str} {p : Pos} {Wx : WX} {cm : Nat → Addr} (T : L2.XfC X.K (cm k)) (hno : PySem.W.findIn X.K (.ref (cm k)) f = some none) (hz : L2N.Zn (.ref (cm k)) (some dd) oe) (hf : ∃ vs, oe.data = .fields vs)
    (hN : X.N[i]? = some x := by rfl) (hv : L2.Vis X.env.scope x := by first | exact Or.inl rfl | exact Or.inr (Or.inl rfl) | exact Or.inr (Or.inr rfl)) (hd : (x == ("__debug__" : Str)) = false := by decide) (hcd : (x == ("__classdict__" : Str)) = false := by decide)
    (hb : attributeBase (.Name x p) f X.env (eval (.Name x p) X.env) = eval (.Name x p) X.env := by rfl) : PX (X.suite a ((a, oe) :: pn)) ⟨cm, some (a, k, dd), Wx⟩ (.Attribute (.Name x p) f pos) (eXf i f) := by
  refine PE.to (L2.pe_xf T hno hz.zc hf (L2.pe_var (X := X.suite a ((a, oe) :: pn)) (i := i) hN hv hd hcd) hb) fun σ H Q ⟨O, ρ, ph, w, h⟩ => ?_
  have he := h.env
  unfold eXf at h
  cases e : ρ[i]? with
  | none => rw [e] at h; exact h.no
  | some s =>
    rw [e] at h
    cases s with
    | exc c0 ns xs =>
      obtain ⟨a', dd', vs, e1, e2, e3, l, r⟩ := he.excd e
      cases e2
      simp only at h
      cases ef : fldOf f ns xs with
      | none => rw [ef] at h; exact h.no
      | some d =>
        rw [ef] at h
        obtain ⟨v, e4, r4⟩ := look_rep (rest := []) r ef
        rw [List.append_nil] at e4
        exact ⟨.ref a, e1, rfl, rfl, dd, _, v, rfl, e3, e4, h.ret r4⟩
    | _ => exact h.no
end
end FL

/-! F10: defs as the module holds them. -/
namespace FL
open PySem
open L2 (V Hp HO Cx Inv VK XK TE TT TA TS TI TG PE PT PA PS PSs PI PG Ends WX RelV Vals Rd upd upd_same upd_ne ne_of_none EP TP AP OpR R2 CallR FnOk Room Binds)
section
variable {K : PySem.W.Frag} {mg : Str → Option Value} {h : Heap}
/-- the module's name x is the def of the statement st; dvs: its defaults -/
structure DefAt (K : PySem.W.Frag) (mg : Str → Option Value) (x : Str) (st : Stmt) (dvs : List V) (f : Addr) (fd : FuncData) : Prop where
  m : mg x = some (.ref f)
  F : L2.FunD K x x (L2.defArgs st) (L2.defBody st) (L2.defScope st) dvs [] f fd
theorem def_at {x : Str} {st : Stmt} {f : Addr} {oc kV doc pm cdv ct : Value} {od an : Option Addr} {osl : Array (Option Value)} (X : K.In h) (G : h.Ns mainGlobals mg) (a : PySem.W.nsIn K mainGlobals x = some (some (.ref f)))
    (l : K.lookup f = some ⟨oc, od, .func (PySem.W.fnOf x x (L2.defArgs st) (L2.defBody st) (L2.defScope st) .none kV doc pm an cdv ct), osl⟩) (c : PySem.W.codeIn K cdv x = true) (k : PySem.W.keepIn K (.ref f) = true) : ∃ fd, DefAt K mg x st [] f fd :=
  ⟨_, PySem.W.mg_of X G a, ⟨⟨oc, od, .none, kV, doc, pm, an, cdv, ct, osl, rfl, l, c, .inl ⟨rfl, rfl⟩, .inl rfl⟩, k⟩⟩
theorem def_atD {x : Str} {st : Stmt} {f T : Addr} {oc kV doc pm cdv ct : Value} {od an : Option Addr} {osl : Array (Option Value)} {o : Obj} {its : List Value} {n : Nat} {dvs : List V} (X : K.In h) (G : h.Ns mainGlobals mg) (a : PySem.W.nsIn K mainGlobals x = some (some (.ref f)))
    (l : K.lookup f = some ⟨oc, od, .func (PySem.W.fnOf x x (L2.defArgs st) (L2.defBody st) (L2.defScope st) (.ref T) kV doc pm an cdv ct), osl⟩) (c : PySem.W.codeIn K cdv x = true) (k : PySem.W.keepIn K (.ref f) = true)
    (lT : K.lookup T = some o) (dT : o.data = .seq its.toArray n) (v : Vals dvs its) (ne : dvs ≠ []) : ∃ fd, DefAt K mg x st dvs f fd :=
  ⟨_, PySem.W.mg_of X G a, ⟨⟨oc, od, .ref T, kV, doc, pm, an, cdv, ct, osl, rfl, l, c, .inr ⟨ne, T, o, its, n, rfl, lT, dT, v⟩, .inl rfl⟩, k⟩⟩
end
end FL

/-! F11: words for the printed derivations; the end of a law. -/
namespace FL
open PySem
open L2 (V Hp HO Cx Inv VK XK TE TT TA TS TI TG PE PT PA PS PSs PI PG Ends WX RelV Vals Rd upd upd_same upd_ne ne_of_none EP TP AP OpR R2 CallR FnOk Room Binds)

theorem hu64 {k : Nat} {A : Around} (r : Room k A) : A.units + 64 < cLine := by have := r.un; omega
theorem hu65 {k : Nat} {A : Around} (r : Room k A) : A.units + 65 < cLine := by have := r.un; omega
theorem bt_len : bootBuiltins "len" = some (.builtin "len") := by decide +kernel
theorem bt_abs : bootBuiltins "abs" = some (.builtin "abs") := by decide +kernel
theorem bt_int : bootBuiltins "int" = some (.type "int") := by decide +kernel
theorem bt_str : bootBuiltins "str" = some (.type "str") := by decide +kernel
theorem bt_bool : bootBuiltins "bool" = some (.type "bool") := by decide +kernel
theorem bt_tuple : bootBuiltins "tuple" = some (.type "tuple") := by decide +kernel
theorem bt_list : bootBuiltins "list" = some (.type "list") := by decide +kernel
theorem bt_dict : bootBuiltins "dict" = some (.type "dict") := by decide +kernel

section
variable {P : Program} {w : World} {K : PySem.W.Frag} {mg : Str → Option Value} {base : Heap} {cm : Nat → Addr}
/-- how a call's values are put into the parameters' places: the positional ones, the defaults, the keywords' -/
inductive Src where
  | p (i : Nat) | d (i : Nat) | k (i : Nat)
def pick {α : Type} (us its ws : List α) : List Src → List α
  | [] => []
  | .p i :: r => us[i]?.toList ++ pick us its ws r
  | .d i :: r => its[i]?.toList ++ pick us its ws r
  | .k i :: r => ws[i]?.toList ++ pick us its ws r
def HeldFn (K : PySem.W.Frag) (f : Addr) (fd : FuncData) : Prop := ∃ oc od osl, K.lookup f = some ⟨oc, od, .func fd, osl⟩
theorem HeldFn.one {f : Addr} {fd fd' : FuncData} (a : HeldFn K f fd) (b : HeldFn K f fd') : fd = fd' := by
  obtain ⟨_, _, _, e⟩ := a
  obtain ⟨_, _, _, e'⟩ := b
  rw [e] at e'
  cases e'
  rfl
theorem held_of {x qual : Str} {params : Arguments} {body : List Stmt} {scope : Scope} {dvs : List V} {kws : List (Str × V)} {f : Addr} {fd : FuncData} (F : L2.FunD K x qual params body scope dvs kws f fd) : HeldFn K f fd := by
  obtain ⟨a1, a2, a3, a4, a5, a6, a7, a8, a9, b1, efd, b3, _⟩ := F.ex
  exact ⟨_, _, _, b3⟩
theorem lk_of {x : Str} {f : Addr} {fd : FuncData} {k : Nat} {ps : List Str} {sp : L2.Sp} (hm : mg x = some (.ref f)) (hf : HeldFn K f fd) (G : FnOk P w K mg base (L2N.CX P w) k f fd ps sp) : ∀ f, mg x = some (.ref f) → ∀ fd, HeldFn K f fd → FnOk P w K mg base (L2N.CX P w) k f fd ps sp := fun f' h fd' h' => by
  rw [hm] at h
  cases h
  rw [← HeldFn.one hf h']
  exact G
/-- the def x: its promise, and what fills its parameters up (bs: the tails of defaults) -/
structure Has (P : Program) (w : World) (K : PySem.W.Frag) (mg : Str → Option Value) (base : Heap) (cm : Nat → Addr) (x : Str) (lvl : Nat) (ps : List Str) (bs : List (List D)) (ksb : List (Nat × List Str × List Src × List D)) (n : Nat) (F : List D → M D) : Prop where
  ex : ∃ f fd, mg x = some (.ref f) ∧ PySem.W.keepIn K (.ref f) = true ∧ FnOk P w K mg base (L2N.CX P w) lvl f fd ps (spX K cm n F) ∧ (∀ dds, dds ∈ bs → ∃ ds dvs, Binds K fd ps ds ∧ Vals dvs ds ∧ ∀ {H N ph}, RepL K cm H N ph dds dvs) ∧
    ∀ e, e ∈ ksb → ∃ (its : List Value) (dvs : List V), Vals dvs its ∧ (∀ {H N ph}, RepL K cm H N ph e.2.2.2 dvs) ∧ L2.KBn K fd ps e.1 e.2.1 (fun us ws => pick us its ws e.2.2.1) (fun us ws => pick us dvs ws e.2.2.1)
  lk : ∀ f, mg x = some (.ref f) → ∀ fd, HeldFn K f fd → FnOk P w K mg base (L2N.CX P w) lvl f fd ps (spX K cm n F)
theorem pick_rel {us : List V} {us' : List Value} {its : List V} {its' : List Value} {ws : List V} {ws' : List Value} (h1 : Vals us us') (h2 : Vals its its') (h3 : Vals ws ws') : ∀ l, Vals (pick us its ws l) (pick us' its' ws' l) := by
  have key : ∀ {xs : List V} {ys : List Value} (h : Vals xs ys) (i : Nat), Vals xs[i]?.toList ys[i]?.toList := by
    intro xs ys h
    induction h with
    | nil => intro i; exact .nil
    | cons r _ ih => intro i; cases i with
      | zero => exact .cons r .nil
      | succ i => exact ih i
  intro l
  induction l with
  | nil => exact .nil
  | cons s r ih => cases s with
    | p i => exact (key h1 i).append ih
    | d i => exact (key h2 i).append ih
    | k i => exact (key h3 i).append ih
theorem pick_rep {H : Hp} {N : NS} {ph : Option Addr} {us its ws : List D} {us' its' ws' : List V} (h1 : RepL K cm H N ph us us') (h2 : RepL K cm H N ph its its') (h3 : RepL K cm H N ph ws ws') : ∀ l, RepL K cm H N ph (pick us its ws l) (pick us' its' ws' l) := by
  have key : ∀ {xs : List D} {ys : List V} (h : RepL K cm H N ph xs ys) (i : Nat), RepL K cm H N ph xs[i]?.toList ys[i]?.toList := by
    intro xs
    induction xs with
    | nil => intro ys h i; cases h.unnil; exact RepL.nil
    | cons x xs ih =>
      intro ys h i
      obtain ⟨v, r, rfl, h1, h2⟩ := h.uncons
      cases i with
      | zero => exact RepL.one h1
      | succ i => exact ih h2 i
  intro l
  induction l with
  | nil => exact RepL.nil
  | cons s r ih => cases s with
    | p i => exact (key h1 i).append ih
    | d i => exact (key h2 i).append ih
    | k i => exact (key h3 i).append ih
theorem fnok_no {k : Nat} {f : Addr} {fd : FuncData} {ps : List Str} : FnOk P w K mg base (L2N.CX P w) k f fd ps (spX K cm ps.length fun _ => M.fail) :=
  ⟨fun _ _ _ _ h => h.1, fun A outer s H args us vs Q E _ _ _ _ ⟨_, _, _, _, _, _, _, _, h⟩ => (show False from h).elim⟩
/-- the printed def, without defaults -/
theorem has_of {x : Str} {st : Stmt} {N ps : List Str} {k m n : Nat} {b : SF} (hd : ∃ f fd, DefAt K mg x st [] f fd) (S : L2.FnScope N ps (L2.defScope st)) (hps : ps.length = m) (hN : N.length = n) (hmn : m ≤ n)
    (hb : ∀ (kV doc pm : Value) (an : Option Addr) (cdv ct : Value) (us : List Value), us.length = ps.length → bindArgs (PySem.W.fnOf x x (L2.defArgs st) (L2.defBody st) (L2.defScope st) .none kV doc pm an cdv ct) ⟨us, []⟩ = pure (ps.zip us))
    (body : ∀ (f : Addr) (cdv : Value) (A : Around) (outer : List PySem.Env) (s : Shared) (H : Hp) (E : XK) (q : Sq), Room k (A.deeper (PyProof.Rows.envOfC x (L2.defScope st) s.heap.objs.size f cdv)) →
      PSSX (L2.cxOf (L2N.CX P w) P w K mg base N x (L2.defScope st) f cdv A outer s H E) ⟨cm, none, fun cls d _ H' => E cls d H'⟩ q (L2.defBody st) b) :
    Has P w K mg base cm x (k + 1) ps [[]] [] m (callF n b) := by
  obtain ⟨f, fd, hm, F⟩ := hd
  subst hps hN
  have G := fn_ok F S hmn fun cdv A outer s H E q hr => body f cdv A outer s H E q hr
  exact ⟨⟨f, fd, hm, F.kp, G, fun dds hm => by
    rw [List.mem_singleton.mp hm]
    exact ⟨[], [], F.bindsN hb, .nil, RepL.nil⟩, fun e he => by cases he⟩, lk_of hm (held_of F) G⟩
/-- .. with defaults -/
theorem has_ofD {x : Str} {st : Stmt} {N ps : List Str} {dvs : List V} {dds : List D} {bs : List (List D)} {ksb : List (Nat × List Str × List Src × List D)} {k m n : Nat} {b : SF} (hd : ∃ f fd, DefAt K mg x st dvs f fd) (S : L2.FnScope N ps (L2.defScope st)) (hps : ps.length = m) (hN : N.length = n) (hmn : m ≤ n) (ne : dvs ≠ [])
    (hdd : ∀ {H N ph}, RepL K cm H N ph dds dvs)
    (hb : ∀ e, e ∈ bs → ∃ (p j : Nat), e = dds.drop j ∧ p + (dvs.length - j) = ps.length ∧ ∀ (T : Addr) (kV doc pm : Value) (an : Option Addr) (cdv ct : Value) (us its : List Value), us.length = p → its.length = dvs.length →
      ∃ r, bindArgs (PySem.W.fnOf x x (L2.defArgs st) (L2.defBody st) (L2.defScope st) (.ref T) kV doc pm an cdv ct) ⟨us, []⟩ = seqItems? (.ref T) >>= r ∧ r (some its.toArray) = pure (ps.zip (us ++ its.drop j)))
    (hkb : ∀ e, e ∈ ksb → e.2.2.2 = dds ∧ ∀ (T : Addr) (kV doc pm : Value) (an : Option Addr) (cdv ct : Value) (us its ws : List Value), us.length = e.1 → its.length = dvs.length → ws.length = e.2.1.length →
      ∃ r, bindArgs (PySem.W.fnOf x x (L2.defArgs st) (L2.defBody st) (L2.defScope st) (.ref T) kV doc pm an cdv ct) ⟨us, e.2.1.zip ws⟩ = seqItems? (.ref T) >>= r ∧ r (some its.toArray) = pure (ps.zip (pick us its ws e.2.2.1)))
    (body : ∀ (f : Addr) (cdv : Value) (A : Around) (outer : List PySem.Env) (s : Shared) (H : Hp) (E : XK) (q : Sq), Room k (A.deeper (PyProof.Rows.envOfC x (L2.defScope st) s.heap.objs.size f cdv)) →
      PSSX (L2.cxOf (L2N.CX P w) P w K mg base N x (L2.defScope st) f cdv A outer s H E) ⟨cm, none, fun cls d _ H' => E cls d H'⟩ q (L2.defBody st) b) :
    Has P w K mg base cm x (k + 1) ps bs ksb m (callF n b) := by
  obtain ⟨f, fd, hm, F⟩ := hd
  subst hps hN
  have G := fn_ok F S hmn fun cdv A outer s H E q hr => body f cdv A outer s H E q hr
  refine ⟨⟨f, fd, hm, F.kp, G, fun e he => ?_, fun e he => ?_⟩, lk_of hm (held_of F) G⟩
  · obtain ⟨p, j, rfl, hl, hq⟩ := hb e he
    obtain ⟨ds, r, hB⟩ := F.binds1 p j ne hl hq
    exact ⟨ds, dvs.drop j, hB, r, hdd.drop j⟩
  · obtain ⟨e1, hq⟩ := hkb e he
    obtain ⟨a1, a2, a3, a4, a5, a6, a7, a8, a9, b1, efd, b3, b4, b5, b6⟩ := F.ex
    rcases b5 with ⟨z, _⟩ | ⟨_, T, o, its, j, eT, lT, oT, rT⟩
    · exact absurd z ne
    · subst efd eT
      refine ⟨its, dvs, rT, by intros; rw [e1]; exact hdd, ⟨fun s us ws X l1 l2 => ?_, fun r1 r2 => pick_rel r1 rT r2 _⟩⟩
      obtain ⟨r, q1, q2⟩ := hq T a4 a5 a6 a7 a8 a9 us its ws l1 rT.length.symm l2
      refine L2.BindsTo.of_looks fun M => ?_
      rw [q1]
      exact L2.looks_items X lT oT (.of_pure q2)
theorem has_no {x : Str} {st : Stmt} {ps : List Str} {k m : Nat} (hd : ∃ f fd, DefAt K mg x st [] f fd) (hps : ps.length = m)
    (hb : ∀ (kV doc pm : Value) (an : Option Addr) (cdv ct : Value) (us : List Value), us.length = ps.length → bindArgs (PySem.W.fnOf x x (L2.defArgs st) (L2.defBody st) (L2.defScope st) .none kV doc pm an cdv ct) ⟨us, []⟩ = pure (ps.zip us)) :
    Has P w K mg base cm x k ps [[]] [] m fun _ => M.fail := by
  obtain ⟨f, fd, hm, F⟩ := hd
  subst hps
  have G : FnOk P w K mg base (L2N.CX P w) k f fd ps (spX K cm ps.length fun _ => M.fail) := fnok_no
  exact ⟨⟨f, fd, hm, F.kp, G, fun dds hm => by
    rw [List.mem_singleton.mp hm]
    exact ⟨[], [], F.bindsN hb, .nil, RepL.nil⟩, fun e he => by cases he⟩, lk_of hm (held_of F) G⟩
/-- the law's def -/
theorem law_fin {st : Stmt} {k : Nat} {F : List D → M D} (hd : ∃ f fd, DefAt K mg "law" st [] f fd)
    (hb : ∀ (kV doc pm : Value) (an : Option Addr) (cdv ct : Value) (us : List Value), us.length = (["script"] : List Str).length → bindArgs (PySem.W.fnOf "law" "law" (L2.defArgs st) (L2.defBody st) (L2.defScope st) .none kV doc pm an cdv ct) ⟨us, []⟩ = pure ((["script"] : List Str).zip us))
    (G : ∀ base : Heap, Has P w K mg base cm "law" k ["script"] [[]] [] 1 F) : ∃ (cm : Nat → Addr) (f : Addr) (fd : FuncData), mg "law" = some (.ref f) ∧ (∀ (s : Shared) (u : Value), BindsTo s fd ⟨[u], []⟩ [("script", u)]) ∧
      ∀ base : Heap, K.In base → base.Ns mainGlobals mg → FnOk P w K mg base (L2N.CX P w) k f fd ["script"] (spX K cm 1 F) := by
  obtain ⟨f, fd, hm, Fd⟩ := hd
  exact ⟨cm, f, fd, hm, fun s u => Fd.bindsA hb s [u] rfl, fun base _ _ => (G base).lk f hm fd (held_of Fd)⟩
/-- own exceptions -/
def ExcH (P : Program) (w : World) (K : PySem.W.Frag) (mg : Str → Option Value) (base : Heap) (x : Str) (C : Addr) (ns : List Str) : Prop := ∃ fI fd ps, ExcK K mg base P w x C fI fd ps ns
end
section
variable {X : Cx} {c : Cfg} {q : Sq} {pos : Pos} {e : Expr} {fe : EF} {es : List Expr} {fs : List EF}
/-- x(e, ..), every parameter written -/
theorem px_has {x : Str} {p : Pos} {k : Nat} {ps : List Str} {bs : List (List D)} {kb : List (Nat × List Str × List Src × List D)} {n : Nat} {F : List D → M D} (G : Has X.prog X.w X.K X.mg X.base c.cm x k ps bs kb n F) (hr : Room k X.A) (hx : L2N.Takes X c.Wx) (hg : L2.Gl X x) (ha : PAX X c (e :: es) fs)
    (hb : [] ∈ bs := by simp) (hn : fs.length = n := by rfl) (hdb : (x == ("__debug__" : Str)) = false := by decide) (he : starEach (e :: es) X.env = (false, eval e X.env) :: starEach es X.env := by rfl) (hpl : (backTo pos (starEach es X.env)).any (·.1) = false := by rfl) :
    PX X c (.Call (.Name x p) (e :: es) [] pos) (eCall F fs) := by
  obtain ⟨f, fd, hm, hk, hF, hB, _⟩ := G.ex
  obtain ⟨ds, dvs, b1, b2, b3⟩ := hB [] hb
  have h := px_call (p := p) (pos := pos) (dds := []) hF hr hx hg hm hk b1 b2 b3 ha (by simpa using hn) hdb he hpl
  have e0 : (fun ds => F (ds ++ [])) = F := by funext ds; rw [List.append_nil]
  rw [e0] at h
  exact h
theorem px_has0 {x : Str} {p : Pos} {k : Nat} {ps : List Str} {bs : List (List D)} {kb : List (Nat × List Str × List Src × List D)} {n : Nat} {F : List D → M D} (dds : List D) (G : Has X.prog X.w X.K X.mg X.base c.cm x k ps bs kb n F) (hr : Room k X.A) (hx : L2N.Takes X c.Wx) (hg : L2.Gl X x)
    (hb : dds ∈ bs := by simp) (hn : dds.length = n := by rfl) (hdb : (x == ("__debug__" : Str)) = false := by decide) : PX X c (.Call (.Name x p) [] [] pos) (eCall (fun ds => F (ds ++ dds)) []) := by
  obtain ⟨f, fd, hm, hk, hF, hB, _⟩ := G.ex
  obtain ⟨ds, dvs, b1, b2, b3⟩ := hB dds hb
  exact px_call0 hF hr hx hg hm hk b1 b2 b3 hn hdb
/-- .. some by their defaults -/
theorem px_hasD {x : Str} {p : Pos} {k : Nat} {ps : List Str} {bs : List (List D)} {kb : List (Nat × List Str × List Src × List D)} {n : Nat} {F : List D → M D} (dds : List D) (G : Has X.prog X.w X.K X.mg X.base c.cm x k ps bs kb n F) (hr : Room k X.A) (hx : L2N.Takes X c.Wx) (hg : L2.Gl X x) (ha : PAX X c (e :: es) fs)
    (hb : dds ∈ bs := by simp) (hn : fs.length + dds.length = n := by rfl) (hdb : (x == ("__debug__" : Str)) = false := by decide) (he : starEach (e :: es) X.env = (false, eval e X.env) :: starEach es X.env := by rfl) (hpl : (backTo pos (starEach es X.env)).any (·.1) = false := by rfl) :
    PX X c (.Call (.Name x p) (e :: es) [] pos) (eCall (fun ds => F (ds ++ dds)) fs) := by
  obtain ⟨f, fd, hm, hk, hF, hB, _⟩ := G.ex
  obtain ⟨ds, dvs, b1, b2, b3⟩ := hB dds hb
  exact px_call hF hr hx hg hm hk b1 b2 b3 ha hn hdb he hpl
/-! keywords -/
abbrev PKX (X : Cx) (c : Cfg) (ks : List Keyword) (fs : List EF) : Prop := L2.PK X ks (tAX X.K c.cm c.xa c.Wx (evs fs))
theorem pkx_nil : PKX X c [] [] := ⟨fun pos pins s σ H Q I ⟨O, ρ, ph, w, h⟩ => L2.pk_nil.run pos pins s σ H Q I (h.ret (b := []) RepL.nil)⟩
theorem pkx_cons {nm : Option Str} {kpos : Pos} {ks : List Keyword} (ha : PX X c e fe) (hr : PKX X c ks fs) : PKX X c (⟨nm, e, kpos⟩ :: ks) (fe :: fs) :=
  ⟨fun pos pins s σ H Q I ⟨O, ρ, ph, w, h⟩ => (L2.pk_cons ha hr).run pos pins s σ H Q I
    (by
      have h' : Run X.K c.cm c.xa O (relL X.K c.cm O) c.Wx ρ σ ph H w (M.bind (fe ρ) fun x => M.bind (evs fs ρ) fun xs => M.ret (x :: xs)) Q := h
      exact ⟨O, ρ, ph, w, (Run.bind (rel := relV X.K c.cm O) h').imp fun v H1 ⟨d, ph1, w1, e1, s1, r1, h1⟩ => ⟨O, ρ, ph1, w1, (Run.bind (rel := relL X.K c.cm O) h1).imp fun vs H2 ⟨ds, ph2, w2, e2, s2, r2, h2⟩ => h2.ret (RepL.cons (Rep.keep (Ext.keep e2 s2) s2.m d v r1) r2)⟩⟩)⟩
/-- positional values, then keywords: one computation -/
theorem evs_app (ρ : Env) : ∀ (fs gs : List EF), evs (fs ++ gs) ρ = M.bind (evs fs ρ) fun xs => M.bind (evs gs ρ) fun ys => M.ret (xs ++ ys)
  | [], gs => by
    show evs gs ρ = M.bind (evs gs ρ) fun ys => M.ret ([] ++ ys)
    have : (fun ys : List D => M.ret ([] ++ ys)) = M.ret := by funext ys; rw [List.nil_append]
    rw [this, bind_ret]
  | f :: fs, gs => by
    show M.bind (f ρ) (fun x => M.bind (evs (fs ++ gs) ρ) fun xs => M.ret (x :: xs)) = _
    rw [evs_app ρ fs gs]
    show _ = M.bind (M.bind (f ρ) fun x => M.bind (evs fs ρ) fun xs => M.ret (x :: xs)) _
    simp only [bind_bind, ret_bind, List.cons_append]
def eCallK (F : List D → M D) (src : List Src) (dds : List D) (fs gs : List EF) : EF := fun ρ => M.bind (evs fs ρ) fun us => M.bind (evs gs ρ) fun ws => F (pick us dds ws src)
theorem px_hasK {x : Str} {p : Pos} {k m : Nat} {ps ks : List Str} {src : List Src} {bs : List (List D)} {kb : List (Nat × List Str × List Src × List D)} {n : Nat} {F : List D → M D} {kws : List Keyword} {gs : List EF} (dds : List D) (G : Has X.prog X.w X.K X.mg X.base c.cm x k ps bs kb n F) (hr : Room k X.A) (hx : L2N.Takes X c.Wx) (hg : L2.Gl X x)
    (ha : PAX X c (e :: es) fs) (hkw : PKX X c kws gs) (hb : (m, ks, src, dds) ∈ kb := by simp) (hm1 : fs.length = m := by rfl) (hk1 : gs.length = ks.length := by rfl) (hn : src.length = n := by rfl) (hsr : (pick (fs.map fun _ => ()) (dds.map fun _ => ()) (gs.map fun _ => ()) src).length = n := by rfl)
    (hall : (backToKw pos (keywordEach kws X.env)).all (·.1.isSome) = true := by rfl) (hks : (backToKw pos (keywordEach kws X.env)).filterMap (·.1) = ks := by rfl)
    (hdb : (x == ("__debug__" : Str)) = false := by decide) (he : starEach (e :: es) X.env = (false, eval e X.env) :: starEach es X.env := by rfl)
    (hpl : ((backTo pos (starEach (e :: es) X.env)).any (·.1) || (backToKw pos (keywordEach kws X.env)).any (·.1.isNone)) = false := by rfl) :
    PX X c (.Call (.Name x p) (e :: es) kws pos) (eCallK F src dds fs gs) := by
  obtain ⟨f, fd, hm, hk, hF, _, hB⟩ := G.ex
  obtain ⟨its, dvs, b1, b3, b4⟩ := hB _ hb
  refine ⟨fun pins s σ H Q I ⟨O, ρ, ph, w, h⟩ => ?_⟩
  have plen : ∀ (us its ws : List D), us.length = fs.length → its.length = dds.length → ws.length = gs.length → (pick us its ws src).length = n := by
    intro us its ws l1 l2 l3
    rw [← hsr]
    have key : ∀ {α β : Type} (us its ws : List α) (us' its' ws' : List β), us.length = us'.length → its.length = its'.length → ws.length = ws'.length → ∀ l, (pick us its ws l).length = (pick us' its' ws' l).length := by
      intro α β us its ws us' its' ws' l1 l2 l3 l
      have k2 : ∀ (xs : List α) (ys : List β) (i : Nat), xs.length = ys.length → xs[i]?.toList.length = ys[i]?.toList.length := by
        intro xs ys i h
        by_cases hi : i < xs.length
        · rw [List.getElem?_eq_getElem hi, List.getElem?_eq_getElem (h ▸ hi)]; rfl
        · rw [List.getElem?_eq_none (by omega), List.getElem?_eq_none (by omega)]; rfl
      induction l with
      | nil => rfl
      | cons s r ih => cases s with
        | p i => simp only [pick, List.length_append, ih, k2 us us' i l1]
        | d i => simp only [pick, List.length_append, ih, k2 its its' i l2]
        | k i => simp only [pick, List.length_append, ih, k2 ws ws' i l3]
    exact key us its ws _ _ _ (by simpa using l1) (by simpa using l2) (by simpa using l3) src
  refine wpAny_Call_Name_kw (L2.ld_glob I hg hm ?_ hdb)
  have h1 := evs_run (k := fun us => M.bind (evs gs ρ) fun ws => F (pick us dds ws src)) h
  refine PySem.W.callWith_KW (h₀ := X.base) I.ok.mod.kin hk hall (L2.thn (ha.run pos pins s σ H _ I ⟨O, ρ, ph, w, h1⟩) fun us s1 ⟨vs, H1, I1, r, ds', ph1, w1, l, rl, h2⟩ => ?_) hpl he
  have h3 := evs_run (k := fun ws => F (pick ds' dds ws src)) h2
  have h3' : Run X.K c.cm c.xa O (relL X.K c.cm O) c.Wx ρ σ ph1 H1 w1 (evs gs ρ) (fun zs H2 => zs.length = gs.length ∧ ∃ as es' ph2 w2, vs.length = as.length ∧ RepL X.K c.cm H2 (OO O ph2) ph2 as vs ∧ RepL X.K c.cm H2 (OO O ph2) ph2 es' zs ∧ Run X.K c.cm c.xa O (relV X.K c.cm O) c.Wx ρ σ ph2 H2 w2 (F (pick as dds es' src)) Q) := by
    refine ⟨h3.env, h3.hand, ?_⟩
    have hp := h3.post
    have hp2 := h2.post
    unfold M.bind at hp2
    cases eg : evs gs ρ w1 with
    | ok ys w2 =>
      rw [eg] at hp hp2
      intro zs H2 ph2 x2 s2 k2 r2
      exact ⟨r2.length.symm.trans (evs_len _ _ _ _ eg), ds', ys, ph2, w2, rl.length.symm, rl.keep (Ext.keep x2 s2) s2.m _ _, r2, h2.env.ext x2 s2, k2, hp2.ext x2 s2⟩
    | ex => rw [eg] at hp; exact hp
    | bad => rw [eg] at hp; exact hp
  refine L2.thn (hkw.run pos pins s1 σ H1 _ I1 ⟨O, ρ, ph1, w1, h3'⟩) fun ws s2 ⟨zs, H2, I2, rz, lz, as, es', ph2, w2, la, ra, rl2, h4⟩ => ⟨I2.kIn, ?_⟩
  rw [hks]
  have lv : vs.length = m := by rw [l, hm1]
  have l3 : zs.length = ks.length := by rw [lz, hk1]
  have rep := pick_rep ra (b3 (H := H2) (N := OO O ph2) (ph := ph2)) rl2 src
  have r2 := b4.rel r rz
  have hb2 := b4.to s2 us ws I2.kIn (r.length.symm.trans lv) (rz.length.symm.trans l3)
  refine wpAny_call (codeAny_mono (hF.run X.A X.stack s2 H2 ⟨us, ks.zip ws⟩ _ _ Q (fun cls d H' => c.Wx cls d σ H') hr I2.env0 hb2 r2 ⟨?_, O, _, ph2, w2, h4.env.tr, h4.hand, rep, post_ws h4.post⟩) fun res s' hq => ?_)
  · rw [← rep.length]
    exact plen _ _ _ (by rw [← la, l]) rfl (by rw [rl2.length, lz])
  · match res, hq with
    | .error e, hq => exact L2N.passAt hx σ pins H2 s2 e s' I2 hq
    | .ok (.ret u), hq => exact I2.after hq
    | .ok .next, hq => exact False.elim hq
    | .ok .brk, hq => exact False.elim hq
    | .ok .cont, hq => exact False.elim hq
/-! raise -/
theorem psx_raiseH {x : Str} {p pos' : Pos} {C : Addr} {ns : List Str} (k : Nat) (G : ExcH X.prog X.w X.K X.mg X.base x C ns) (hC : c.cm k = C) (hc : X.calm = true) (tk : L2N.Takes X c.Wx) (hr : Room 2 X.A) (hg : L2.Gl X x)
    (ha : PAX X c (e :: es) fs) (hn : fs.length = ns.length := by rfl) (hl : ns.length ≤ 1000 := by decide) (hdb : (x == ("__debug__" : Str)) = false := by decide) (he : starEach (e :: es) X.env = (false, eval e X.env) :: starEach es X.env := by rfl) (hpl : (backTo pos (starEach es X.env)).any (·.1) = false := by rfl) :
    PSX X c q (.Raise (some (.Call (.Name x p) (e :: es) [] pos)) none pos') (sRaise k ns fs) := by
  obtain ⟨fI, fd, ps, G⟩ := G
  exact psx_raise k G hC hc tk hr hg ha hn hl hdb he hpl
theorem ptsx_nil : L2.PTs X [] (tTX X.K c.cm c.xa c.Wx tYes) := ⟨fun pins s σ H Q I ⟨O, ρ, ph, w, h⟩ => L2.pts_nil.run pins s σ H Q I (h.ret (b := true) rfl)⟩
end

/-! ### the end -/
theorem cx_end {P : Program} {w : World} {H : Hp} {s : Shared} {e : Value} {s' : Shared} (h : L2N.CX P w [] H s (fun _ _ _ => False) e s') : False := by
  obtain ⟨_, _, _, _, _, _, _, _, _, _, _, _, z⟩ := h
  exact z
theorem repl_ints {K : PySem.W.Frag} {cm : Nat → Addr} {H : Hp} {N : NS} {ph : Option Addr} : ∀ ns : List Int, RepL K cm H N ph (ns.map D.int) (ns.map V.int)
  | [] => RepL.nil
  | n :: ns => RepL.cons (by simp [Rep]) (repl_ints ns)
theorem sp_end {K : PySem.W.Frag} {cm : Nat → Addr} {n : Nat} {F : List D → M D} (plain : ∀ ns : List Int, ns.length ≤ n → ∃ w', F [.frz (ns.map D.int)] none = .ok (.bl true) w') (H : Hp) (a : Addr) (ns : List Int) (hl : ns.length ≤ n) (S : L2.SqL K H a (ns.map V.int)) :
    spX K cm 1 F [.ref a] H (fun v _ => v = .bl true) fun _ _ _ => False := by
  refine ⟨rfl, fun _ => False, [.frz (ns.map D.int)], none, none, fun _ z => z.elim, trivial, RepL.one ?_, ?_⟩
  · simp only [Rep]
    refine ⟨a, _, rfl, ?_, repl_ints ns⟩
    rcases S with S | S
    · exact .inl ⟨fun z => z.elim (fun y => y) (fun y => nomatch y), S⟩
    · exact .inr S
  · obtain ⟨w', e⟩ := plain ns hl
    rw [e]
    intro v H' ph' _ _ _ r
    exact bl_of r
theorem law_end {l : PySem.W.OpenLaw} {n k : Nat} {q : PySem.Program} {loose : List Str} {XP : (Str → Option Value) → Heap → Prop} {YP : World → Heap → Prop} {d : DefRec} {K : Params → PySem.W.Frag} {F : List D → M D} (hn : l.most = some n) (hn2 : n ≤ sizeLine) (hdf : d.params.defaults = []) (hr : Room k callerA)
    (hY : ∀ (w : World) (h : Heap), YP w h → (K w.params).In h) (plain : ∀ ns : List Int, ns.length ≤ n → ∃ w', F [.frz (ns.map D.int)] none = .ok (.bl true) w')
    (G : ∀ (w : World) (mg : Str → Option Value) (h : Heap), (K w.params).In h → h.Ns mainGlobals mg → ∃ (cm : Nat → Addr) (f : Addr) (fd : FuncData), mg d.name = some (.ref f) ∧ (∀ (s : Shared) (u : Value), BindsTo s fd ⟨[u], []⟩ [("script", u)]) ∧
      ∀ base : Heap, (K w.params).In base → base.Ns mainGlobals mg → FnOk l.prog w (K w.params) mg base (L2N.CX l.prog w) k f fd ["script"] (spX (K w.params) cm 1 F)) :
    PySem.W.WalkO q loose XP YP l.row.toRowW d [] (fun f vs => PySem.call f vs) := by
  refine L2.walk_of (CX := fun w => L2N.CX l.prog w) (sp := fun w => fun vs H Q E => ∀ cm : Nat → Addr, spX (K w.params) cm 1 F vs H Q E) (k := k) (x := "script") hn hn2 hdf hr hY (fun w mg fa h KX GX hm => ?_) (fun w H a ns hl _ S cm => sp_end plain H a ns hl S) fun w H s e s' h => cx_end h
  obtain ⟨cm, f, fd, e, hb, hF⟩ := G w mg h KX GX
  rw [hm] at e
  cases e
  exact ⟨fd, hb, fun base KB NB => (hF base KB NB).imp fun vs H Q E z => z cm⟩
end FL

/-! F12: more words for the printed derivations. -/
namespace FL
open PySem
open L2 (V Hp HO Cx Inv VK XK TE TT TA TS TI TG PE PT PA PS PSs PI PG Ends WX RelV Vals Rd upd upd_same upd_ne ne_of_none EP TP AP OpR R2 CallR FnOk Room Binds)
def GInt (mg : Str → Option Value) (x : Str) (i : Int) : Prop := ∃ t : Tok, mg x = some (.int i t)
def GTup (K : PySem.W.Frag) (mg : Str → Option Value) (x : Str) (i j : Int) : Prop := ∃ (a : Addr) (ti tj : Tok) (dd : Option Addr) (sl : Array (Option Value)), mg x = some (.ref a) ∧ K.lookup a = some ⟨.type "tuple", dd, .seq #[.int i ti, .int j tj] 0, sl⟩
section
variable {X : Cx} {c : Cfg} {q : Sq} {pos : Pos} {e : Expr} {fe : EF}
theorem px_gintE {x : Str} {i : Int} (hg : L2.Gl X x) (h : GInt X.mg x i) (hd : (x == ("__debug__" : Str)) = false := by decide) : PX X c (.Name x pos) (eC (.int i)) := by
  obtain ⟨t, h⟩ := h
  exact px_gint hg h hd
theorem px_gtupE {x : Str} {i j : Int} (hg : L2.Gl X x) (h : GTup X.K X.mg x i j) (hd : (x == ("__debug__" : Str)) = false := by decide) : PX X c (.Name x pos) (eC (.tup [.int i, .int j])) := by
  obtain ⟨a, ti, tj, dd, sl, h, hk⟩ := h
  exact px_gtup2 hg h hk hd
abbrev PTSX (X : Cx) (c : Cfg) (es : List Expr) (f : TF) : Prop := L2.PTs X es (tTX X.K c.cm c.xa c.Wx f)
theorem ptsx0 : PTSX X c [] tYes := ptsx_nil
theorem ptsx1 {t : TF} (h : PTX X c e t) : PTSX X c [e] t := L2.pts_one h
theorem pnx_lcE {elt tg iter : Expr} {ifs : List Expr} {scope : Scope} {own : List (Str × Nat)} {f : IF} {g : GF} {gt : TG} {is : List Nat} {t : TF} {fe : EF} (hc : X.calm = true) (hN : X.N.Nodup) (hi : PIX X c tg iter f) (ok : L2.BlkOk X.N X.env.scope scope own) (his : own.map (·.2) = is)
    (hg : ∀ (s : Shared) (H : Hp) (C : Addr) (cl : List (Str × Addr)) (fp : List Addr), PG (X.blk s H scope (compEnvC scope cl C X.env) fp) tg gt) (hG : TGX X.K c.cm g gt is)
    (ht : ∀ (s : Shared) (H : Hp) (C : Addr) (cl : List (Str × Addr)) (fp : List Addr), PTSX (X.blk s H scope (compEnvC scope cl C X.env) fp) ⟨c.cm, c.xa, noW⟩ ifs t)
    (he : ∀ (s : Shared) (H : Hp) (C : Addr) (cl : List (Str × Addr)) (fp : List Addr), PX (X.blk s H scope (compEnvC scope cl C X.env) fp) ⟨c.cm, c.xa, noW⟩ elt fe) (hs : ∀ x, foldedSetIterable iter X.env x = pure x := by intro _; rfl) :
    PNX X c (.ListComp elt [⟨tg, iter, ifs, 0⟩] scope pos) (nLc f is g t fe) := pnx_lc hc hN hi ok his hg hG ht he hs
theorem psx_appE (i : Nat) {x : Str} {p0 p1 p2 : Pos} (he : PX X c e fe) (hN : X.N[i]? = some x := by rfl) (hv : L2.Vis X.env.scope x := by first | exact Or.inl rfl | exact Or.inr (Or.inl rfl) | exact Or.inr (Or.inr rfl)) (hd : (x == ("__debug__" : Str)) = false := by decide)
    (hcd : (x == ("__classdict__" : Str)) = false := by decide) (hst : starEach (e :: []) X.env = (false, eval e X.env) :: starEach [] X.env := by rfl) (hs : swapsWith (.Call (.Attribute (.Name x p0) "append" p1) [e] [] p2) none pos.line X.env = pure false := by rfl)
    (hpl : (backTo p2 (starEach [] X.env)).any (·.1) = false := by rfl)
    (hw : ((backTo p2 (starEach [e] X.env)).all (fun x => !x.1) && (backToKw p2 (keywordEach [] X.env)).all (fun x => x.1.isSome) && decide ([e].length + ([] : List Keyword).length + (if ([] : List Keyword).isEmpty then 0 else 1) < 30)) = true := by rfl)
    (hl : (p1.endLine == p2.line) = true := by rfl) : PSX X c q (.Expr (.Call (.Attribute (.Name x p0) "append" p1) [e] [] p2) pos) (sApp i fe) :=
  psx_app i he hN hv hd hcd hst hs hpl (L2.pe_bm PySem.F.plainAttrs_list PySem.F.slot_list_append PySem.F.type_list_append L2.mt_append (L2.pe_var hN hv hd hcd) (L2.pa_cons he L2.pa_nil hst) (by rfl) hw hl hst hpl)
end
section
variable {K : PySem.W.Frag} {mg : Str → Option Value} {h : Heap} {P : Program} {w : World} {base : Heap}
theorem exm_of {cls : Value} {C : Addr} {b : Bool} (e : PySem.W.subIn K (.ref C) (.type "BaseException") = some true) (i : PySem.W.isClsIn K C = true) (t : PySem.W.typeIn K (.ref C) = some (.type "type")) (s : PySem.W.subIn K cls (.ref C) = some b) : PySem.W.exmOne K cls (.ref C) = some b := by
  have q1 : (some true == some true) = true := by decide
  have q2 : ((PySem.W.clsIn K C).isSome && PySem.W.typeIn K (.ref C) == some (.type "type")) = true := by
    simp only [Bool.and_eq_true, beq_iff_eq]
    exact ⟨i, t⟩
  unfold PySem.W.exmOne
  rw [e, if_pos q1]
  unfold PySem.W.kitCls
  simp only [if_pos q2]
  exact s
theorem excH1 {x qual : Str} {st : Stmt} {C f : Addr} {n0 n1 f1 : Str} {ps : List Str} {oc kV doc pm cdv ct : Value} {od an : Option Addr} {osl : Array (Option Value)} {p1 p2 p3 p4 : Pos} (X : K.In h) (G : h.Ns mainGlobals mg) (T : L2.OexC K C) (iC : PySem.W.findIn K (.ref C) "__init__" = some (some (.ref f))) (tI : PySem.W.typeIn K (.ref f) = some (.type "function"))
    (l : K.lookup f = some ⟨oc, od, .func (PySem.W.fnOf "__init__" qual (L2.defArgs st) (L2.defBody st) (L2.defScope st) .none kV doc pm an cdv ct), osl⟩) (c : PySem.W.codeIn K cdv qual = true) (k : PySem.W.keepIn K (.ref f) = true) (S : L2.FnScope [n0, n1] ps (L2.defScope st)) (hps : ps = [n0, n1])
    (hm : mg x = some (.ref C)) (hno : PySem.W.findIn K (.ref C) f1 = some none)
    (eb : L2.defBody st = [.Assign [.Attribute (.Name n0 p1) f1 p2] (.Name n1 p3) p4])
    (hb : ∀ (kV doc pm : Value) (an : Option Addr) (cdv ct : Value) (us : List Value), us.length = ps.length → bindArgs (PySem.W.fnOf "__init__" qual (L2.defArgs st) (L2.defBody st) (L2.defScope st) .none kV doc pm an cdv ct) ⟨us, []⟩ = pure (ps.zip us))
    (v0 : L2.Vis (L2.defScope st) n0 := by exact Or.inl rfl) (v1 : L2.Vis (L2.defScope st) n1 := by exact Or.inl rfl) (d0 : (n0 == ("__debug__" : Str)) = false := by decide) (d1 : (n1 == ("__debug__" : Str)) = false := by decide) (c0 : (n0 == ("__classdict__" : Str)) = false := by decide) (c1 : (n1 == ("__classdict__" : Str)) = false := by decide)
    (hsw : ∀ env : PySem.Env, swapsWith (.Name n1 p3) (some (.Attribute (.Name n0 p1) f1 p2)) p4.line env = pure false := by intro _; rfl) : ExcH P w K mg base x C [f1] := by
  have F : L2.FunD K "__init__" qual (L2.defArgs st) (L2.defBody st) (L2.defScope st) [] [] f _ := ⟨⟨oc, od, .none, kV, doc, pm, an, cdv, ct, osl, rfl, l, c, .inl ⟨rfl, rfl⟩, .inl rfl⟩, k⟩
  have B := F.bindsN hb
  rw [eb] at F B
  exact ⟨f, _, ps, T, iC, tI, init1_ok F S (by rw [hps]; rfl) v0 v1 d0 d1 c0 c1 hsw, B, hm, fun n hn => by rw [List.mem_singleton.mp hn]; exact hno⟩
theorem excH2 {x qual : Str} {st : Stmt} {C f : Addr} {n0 n1 n2 f1 f2 : Str} {ps : List Str} {oc kV doc pm cdv ct : Value} {od an : Option Addr} {osl : Array (Option Value)} {p1 p2 p3 p4 p5 p6 p7 p8 : Pos} (X : K.In h) (G : h.Ns mainGlobals mg) (T : L2.OexC K C) (iC : PySem.W.findIn K (.ref C) "__init__" = some (some (.ref f))) (tI : PySem.W.typeIn K (.ref f) = some (.type "function"))
    (l : K.lookup f = some ⟨oc, od, .func (PySem.W.fnOf "__init__" qual (L2.defArgs st) (L2.defBody st) (L2.defScope st) .none kV doc pm an cdv ct), osl⟩) (c : PySem.W.codeIn K cdv qual = true) (k : PySem.W.keepIn K (.ref f) = true) (S : L2.FnScope [n0, n1, n2] ps (L2.defScope st)) (hps : ps = [n0, n1, n2])
    (hm : mg x = some (.ref C)) (hno : PySem.W.findIn K (.ref C) f1 = some none) (hno2 : PySem.W.findIn K (.ref C) f2 = some none)
    (eb : L2.defBody st = [.Assign [.Attribute (.Name n0 p1) f1 p2] (.Name n1 p3) p4, .Assign [.Attribute (.Name n0 p5) f2 p6] (.Name n2 p7) p8])
    (hb : ∀ (kV doc pm : Value) (an : Option Addr) (cdv ct : Value) (us : List Value), us.length = ps.length → bindArgs (PySem.W.fnOf "__init__" qual (L2.defArgs st) (L2.defBody st) (L2.defScope st) .none kV doc pm an cdv ct) ⟨us, []⟩ = pure (ps.zip us))
    (v0 : L2.Vis (L2.defScope st) n0 := by exact Or.inl rfl) (v1 : L2.Vis (L2.defScope st) n1 := by exact Or.inl rfl) (v2 : L2.Vis (L2.defScope st) n2 := by exact Or.inl rfl) (d0 : (n0 == ("__debug__" : Str)) = false := by decide) (d1 : (n1 == ("__debug__" : Str)) = false := by decide) (d2 : (n2 == ("__debug__" : Str)) = false := by decide)
    (c0 : (n0 == ("__classdict__" : Str)) = false := by decide) (c1 : (n1 == ("__classdict__" : Str)) = false := by decide) (c2 : (n2 == ("__classdict__" : Str)) = false := by decide)
    (hs1 : ∀ env : PySem.Env, swapsWith (.Name n1 p3) (some (.Attribute (.Name n0 p1) f1 p2)) p4.line env = pure false := by intro _; rfl) (hs2 : ∀ env : PySem.Env, swapsWith (.Name n2 p7) (some (.Attribute (.Name n0 p5) f2 p6)) p8.line env = pure false := by intro _; rfl) : ExcH P w K mg base x C [f1, f2] := by
  have F : L2.FunD K "__init__" qual (L2.defArgs st) (L2.defBody st) (L2.defScope st) [] [] f _ := ⟨⟨oc, od, .none, kV, doc, pm, an, cdv, ct, osl, rfl, l, c, .inl ⟨rfl, rfl⟩, .inl rfl⟩, k⟩
  have B := F.bindsN hb
  rw [eb] at F B
  exact ⟨f, _, ps, T, iC, tI, init2_ok F S (by rw [hps]; rfl) v0 v1 v2 d0 d1 d2 c0 c1 c2 hs1 hs2, B, hm, fun n hn => by
    rcases List.mem_cons.mp hn with e | hn
    · rw [e]; exact hno
    · rw [List.mem_singleton.mp hn]; exact hno2⟩
end
end FL

/-! F13: lists of the def's own, read while they grow; insert, pop. -/
namespace FL
open PySem
open L2 (V Hp HO Cx Inv VK XK TE TT TA TS TI TG PE PT PA PS PSs PI PG Ends WX RelV Vals Rd upd upd_same upd_ne ne_of_none EP TP AP OpR R2 CallR FnOk Room Binds)
mutual
/-- no list, no object, no hand in it -/
def noLst : D → Bool
  | .non | .bl _ | .int _ | .str _ => true
  | .tup xs | .ins _ _ xs => noLstL xs
  | _ => false
def noLstL : List D → Bool
  | [] => true
  | x :: xs => noLst x && noLstL xs
end
mutual
/-- no hand in it -/
def noHand : D → Bool
  | .hand => false
  | .tup xs | .lst xs | .frz xs | .ins _ _ xs => noHandL xs
  | _ => true
def noHandL : List D → Bool
  | [] => true
  | x :: xs => noHand x && noHandL xs
end
/-- the slots as they are read: own lists as lists, nothing of the hand -/
def borS : Slot → Slot
  | .val d => if noHand d = true then .val d else .none
  | .own xs => if noHandL xs = true then .val (.lst xs) else .none
  | .nest xs => if noHandL xs = true then .val (.lst xs) else .none
  | .exc c ns xs => if noHandL xs = true then .exc c ns xs else .none
  | .none | .slf => .none
def borE (ρ : Env) : Env := ρ.map borS
def eBor (e : EF) : EF := fun ρ w => match e (borE ρ) none with
  | .ok d none => if noLst d = true then .ok d w else .bad
  | .ex c ns xs none => if noLstL xs = true then .ex c ns xs w else .bad
  | _ => .bad
def tBor (t : TF) : TF := fun ρ w => match t (borE ρ) none with
  | .ok b none => .ok b w
  | .ex c ns xs none => if noLstL xs = true then .ex c ns xs w else .bad
  | _ => .bad
section
variable {K : PySem.W.Frag} {cm : Nat → Addr} {H H' : Hp} {N N' O : NS} {ph ph' : Option Addr}
mutual
theorem rep_noph (hN : ∀ a, N' a → N a) : ∀ (d : D) (v : V), noHand d = true → Rep K cm H N ph d v → Rep K cm H N' none d v
  | .non, _, _, h => by simpa [Rep] using h
  | .bl _, _, _, h => by simpa [Rep] using h
  | .int _, _, _, h => by simpa [Rep] using h
  | .str _, _, _, h => by simpa [Rep] using h
  | .tup ds, v, e, h => by
    simp only [Rep, noHand] at h e ⊢
    obtain ⟨a, vs, e1, t, r⟩ := h
    exact ⟨a, vs, e1, t.imp (fun z => ⟨fun q => z.1 (hN a q), z.2⟩) (fun z => z), repl_noph hN ds vs e r⟩
  | .lst ds, v, e, h => by
    simp only [Rep, noHand] at h e ⊢
    obtain ⟨a, vs, e1, ⟨n, t⟩, r⟩ := h
    exact ⟨a, vs, e1, ⟨fun q => n (hN a q), t⟩, repl_noph hN ds vs e r⟩
  | .frz ds, v, e, h => by
    simp only [Rep, noHand] at h e ⊢
    obtain ⟨a, vs, e1, t, r⟩ := h
    exact ⟨a, vs, e1, t.imp (fun z => ⟨fun q => z.1 (hN a q), z.2⟩) (fun z => z), repl_noph hN ds vs e r⟩
  | .ins c ns ds, v, e, h => by
    simp only [Rep, noHand] at h e ⊢
    obtain ⟨a, dx, vs, e1, n, t, l, r⟩ := h
    exact ⟨a, dx, vs, e1, fun q => n (hN a q), t, l, repl_noph hN ds vs e r⟩
  | .hand, v, e, _ => by simp [noHand] at e
theorem repl_noph (hN : ∀ a, N' a → N a) : ∀ (ds : List D) (vs : List V), noHandL ds = true → RepL K cm H N ph ds vs → RepL K cm H N' none ds vs
  | [], _, _, h => by simpa [RepL] using h
  | d :: ds, vs, e, h => by
    simp only [RepL, noHandL, Bool.and_eq_true] at h e ⊢
    obtain ⟨v, r, e1, h1, h2⟩ := h
    exact ⟨v, r, e1, rep_noph hN d v e.1 h1, repl_noph hN ds r e.2 h2⟩
end
mutual
/-- what holds no list stands where no list is -/
theorem rep_nolst (hN : ∀ a, N' a → N a ∨ ∃ vs, H a = some (.lst vs)) : ∀ (d : D) (v : V), noLst d = true → Rep K cm H N ph d v → Rep K cm H N' ph' d v
  | .non, _, _, h => by simpa [Rep] using h
  | .bl _, _, _, h => by simpa [Rep] using h
  | .int _, _, _, h => by simpa [Rep] using h
  | .str _, _, _, h => by simpa [Rep] using h
  | .tup ds, v, e, h => by
    simp only [Rep, noLst] at h e ⊢
    obtain ⟨a, vs, e1, t, r⟩ := h
    refine ⟨a, vs, e1, t.imp (fun z => ⟨fun q => ?_, z.2⟩) (fun z => z), repl_nolst hN ds vs e r⟩
    rcases hN a q with q | ⟨us, y⟩
    · exact z.1 q
    · rcases z.2 with z | ⟨o, z⟩ <;> (rw [y] at z; cases z)
  | .lst _, _, e, _ => by simp [noLst] at e
  | .frz _, _, e, _ => by simp [noLst] at e
  | .ins c ns ds, v, e, h => by
    simp only [Rep, noLst] at h e ⊢
    obtain ⟨a, dx, vs, e1, n, t, l, r⟩ := h
    refine ⟨a, dx, vs, e1, fun q => ?_, t, l, repl_nolst hN ds vs e r⟩
    rcases hN a q with q | ⟨us, y⟩
    · exact n q
    · rw [y] at t; cases t
  | .hand, _, e, _ => by simp [noLst] at e
theorem repl_nolst (hN : ∀ a, N' a → N a ∨ ∃ vs, H a = some (.lst vs)) : ∀ (ds : List D) (vs : List V), noLstL ds = true → RepL K cm H N ph ds vs → RepL K cm H N' ph' ds vs
  | [], _, _, h => by simpa [RepL] using h
  | d :: ds, vs, e, h => by
    simp only [RepL, noLstL, Bool.and_eq_true] at h e ⊢
    obtain ⟨v, r, e1, h1, h2⟩ := h
    exact ⟨v, r, e1, rep_nolst hN d v e.1 h1, repl_nolst hN ds r e.2 h2⟩
end
/-- what stays owned while own lists are read -/
def borO (O : NS) (ρ : Env) (σ : St) (ph : Option Addr) : NS := fun a => ph = some a ∨ (O a ∧ ∀ (j : Nat) xs, ρ[j]? = some (.own xs) → σ[j]? ≠ some (some (.ref a)))
variable {xa : Option (Addr × Nat × Addr)} {ρ : Env} {σ : St} {w : Wd}
theorem bor_sub : ∀ a, OO (borO O ρ σ ph) none a → OO O ph a := fun a z => by
  rcases z with (z | z) | z
  · exact .inr z
  · exact .inl z.1
  · cases z
theorem bor_env (he : EnvE K cm xa O H ph ρ σ) (hh : HandOk K cm H O ph w) : EnvE K cm xa (borO O ρ σ ph) H none (borE ρ) σ := by
  refine ⟨by unfold borE; simp [he.len], fun i s x e1 e2 => ?_, fun a z => ⟨fun q => (nomatch q), ?_⟩⟩
  · unfold borE at e1
    rw [List.getElem?_map] at e1
    cases e : ρ[i]? with
    | none => rw [e] at e1; cases e1
    | some t =>
      rw [e] at e1
      have hs := he.at_ i t x e e2
      cases t with
      | none => cases e1; trivial
      | val d =>
        by_cases hn : noHand d = true
        · have e3 : s = .val d := by simpa [borS, hn] using e1.symm
          subst e3
          obtain ⟨v, ev, r⟩ := hs
          exact ⟨v, ev, rep_noph bor_sub d v hn r⟩
        · have e3 : s = .none := by simpa [borS, hn] using e1.symm
          subst e3; trivial
      | nest ds =>
        by_cases hn : noHandL ds = true
        · have e3 : s = .val (.lst ds) := by simpa [borS, hn] using e1.symm
          subst e3
          obtain ⟨v, ev, r⟩ := hs
          exact ⟨v, ev, rep_noph bor_sub _ v hn r⟩
        · have e3 : s = .none := by simpa [borS, hn] using e1.symm
          subst e3; trivial
      | own ds =>
        by_cases hn : noHandL ds = true
        · have e3 : s = .val (.lst ds) := by simpa [borS, hn] using e1.symm
          subst e3
          obtain ⟨p, vs, ev, o, hp, r⟩ := hs
          refine ⟨.ref p, ev, ?_⟩
          simp only [Rep]
          refine ⟨p, vs, rfl, ⟨fun z => ?_, hp⟩, repl_noph bor_sub ds vs hn r⟩
          rcases z with (z | z) | z
          · exact (he.tr p o).1 z
          · exact z.2 i ds e (by rw [e2, ev])
          · cases z
        · have e3 : s = .none := by simpa [borS, hn] using e1.symm
          subst e3; trivial
      | slf => cases e1; trivial
      | exc c ns ds =>
        by_cases hn : noHandL ds = true
        · have e3 : s = .exc c ns ds := by simpa [borS, hn] using e1.symm
          subst e3
          obtain ⟨a, dd, vs, ev, hx, n, hd, l, r⟩ := hs
          exact ⟨a, dd, vs, ev, hx, fun q => n (bor_sub dd q), hd, l, repl_noph bor_sub ds vs hn r⟩
        · have e3 : s = .none := by simpa [borS, hn] using e1.symm
          subst e3; trivial
  · rcases z with z | z
    · obtain ⟨vs, k⟩ := hh.tr z
      exact ⟨_, k, .lst vs⟩
    · exact (he.tr a z.1).2
theorem bor_lists (he : EnvE K cm xa O H ph ρ σ) (x : Ext none H H') : ∀ a, OO O ph a → OO (borO O ρ σ ph) none a ∨ ∃ vs, H' a = some (.lst vs) := fun a z => by
  rcases z with z | z
  · by_cases c : ∃ (j : Nat) (xs : List D), ρ[j]? = some (.own xs) ∧ σ[j]? = some (some (.ref a))
    · obtain ⟨j, xs, c1, c2⟩ := c
      obtain ⟨p, vs, c3, _, c4, _⟩ := he.ownd c1
      rw [c2] at c3
      cases c3
      exact .inr ⟨vs, x a _ (fun q => by cases q) c4⟩
    · exact .inl (.inl (.inr ⟨z, fun j xs c1 c2 => c ⟨j, xs, c1, c2⟩⟩))
  · exact .inl (.inl (.inl z))
theorem bor_hand (hh : HandOk K cm H O ph w) (x : Ext none H H') : HandOk K cm H' O ph w :=
  hh.keep (Ext.keep (fun b o _ e => x b o (fun q => by cases q) e) .refl) fun p _ o e => x p o (fun q => by cases q) e
end
section
variable {X : Cx} {c : Cfg} {q : Sq} {pos : Pos} {e : Expr} {fe : EF}
theorem px_bor (h : PX X c e fe) : PX X c e (eBor fe) := PE.to h fun σ H Q ⟨O, ρ, ph, w, h⟩ => by
  refine ⟨borO O ρ σ ph, borE ρ, none, none, bor_env h.env h.hand, trivial, ?_⟩
  have hp := h.post
  unfold eBor at hp
  cases er : fe (borE ρ) none with
  | ok d w1 =>
    rw [er] at hp
    cases w1 with
    | some hs => exact (show False from hp).elim
    | none =>
      simp only at hp
      by_cases hn : noLst d = true
      · rw [if_pos hn] at hp
        intro v H' ph1 x s hk r
        cases ph1 with
        | some p => exact hk.elim
        | none => exact hp v H' ph (fun b o _ e => x b o (fun q => by cases q) e) .refl (bor_hand h.hand x) (rep_nolst (bor_lists h.env x) d v hn r)
      · rw [if_neg hn] at hp; exact (show False from hp).elim
  | ex k ns xs w1 =>
    rw [er] at hp
    cases w1 with
    | some hs => exact (show False from hp).elim
    | none =>
      simp only at hp
      by_cases hn : noLstL xs = true
      · rw [if_pos hn] at hp
        intro dd H' ph1 vs x s hk hd l r
        cases ph1 with
        | some p => exact hk.elim
        | none => exact hp dd H' ph vs (fun b o _ e => x b o (fun q => by cases q) e) .refl (bor_hand h.hand x) hd l (repl_nolst (bor_lists h.env x) xs vs hn r)
      · rw [if_neg hn] at hp; exact (show False from hp).elim
  | bad => rw [er] at hp; exact (show False from hp).elim
theorem ptx_bor {t : TF} (h : PTX X c e t) : PTX X c e (tBor t) := PT.to h fun σ H Q ⟨O, ρ, ph, w, h⟩ => by
  refine ⟨borO O ρ σ ph, borE ρ, none, none, bor_env h.env h.hand, trivial, ?_⟩
  have hp := h.post
  unfold tBor at hp
  cases er : t (borE ρ) none with
  | ok d w1 =>
    rw [er] at hp
    cases w1 with
    | some hs => exact (show False from hp).elim
    | none =>
      intro v H' ph1 x s hk r
      cases ph1 with
      | some p => exact hk.elim
      | none => exact hp v H' ph (fun b o _ e => x b o (fun q => by cases q) e) .refl (bor_hand h.hand x) r
  | ex k ns xs w1 =>
    rw [er] at hp
    cases w1 with
    | some hs => exact (show False from hp).elim
    | none =>
      simp only at hp
      by_cases hn : noLstL xs = true
      · rw [if_pos hn] at hp
        intro dd H' ph1 vs x s hk hd l r
        cases ph1 with
        | some p => exact hk.elim
        | none => exact hp dd H' ph vs (fun b o _ e => x b o (fun q => by cases q) e) .refl (bor_hand h.hand x) hd l (repl_nolst (bor_lists h.env x) xs vs hn r)
      · rw [if_neg hn] at hp; exact (show False from hp).elim
  | bad => rw [er] at hp; exact (show False from hp).elim
end
end FL

/-! F14: methods that change a list of the def's own. -/
namespace FL
open PySem
open L2 (V Hp HO Cx Inv VK XK TE TT TA TS TI TG PE PT PA PS PSs PI PG Ends WX RelV Vals Rd upd upd_same upd_ne ne_of_none EP TP AP OpR R2 CallR FnOk Room Binds)
def mutK (i : Nat) (f : List D → List D → Option (List D)) (xs : List D) (ρ : Env) (ds : List D) (w : Wd) : SR := match f xs ds with
  | some ys => .nx (ρ.set i (.own ys)) w
  | none => .bad
/-- x.m(e, ..), x a list of the def's own -/
def sMut (i : Nat) (f : List D → List D → Option (List D)) (es : List EF) : SF := fun ρ w => match ρ[i]? with
  | some (.own xs) => onE (evs es ρ) ρ w (mutK i f xs ρ)
  | _ => .bad
def insF (xs : List D) : List D → Option (List D)
  | [.int k, d] => if 0 ≤ k ∧ k < 2 ^ 62 ∧ xs.length < line then some (xs.take k.toNat ++ [d] ++ xs.drop k.toNat) else none
  | _ => none
def popAtF (xs : List D) : List D → Option (List D)
  | [.int k] => if -(2 ^ 62) ≤ k ∧ k < 2 ^ 62 then (ixP xs.length k).map fun j => xs.eraseIdx j else none
  | _ => none
def popF (xs : List D) : List D → Option (List D)
  | [] => if xs = [] then none else some xs.dropLast
  | _ => none
def revF (xs : List D) : List D → Option (List D)
  | [] => some xs.reverse
  | _ => none
/-- r is f, of a list that stands at p -/
def MutOk (K : PySem.W.Frag) (f : List D → List D → Option (List D)) (r : V → List V → Hp → VK → Prop) : Prop := ∀ {cm : Nat → Addr} {H : Hp} {N N' : NS} {ph ph' : Option Addr} {xs ds ys : List D} {vs us : List V} {p : Addr} {Q : VK}, f xs ds = some ys → H p = some (.lst vs) → RepL K cm H N ph xs vs → RepL K cm H N' ph' ds us →
  (∀ (v : V) (ws : List V), (∀ {cm' : Nat → Addr} {H' N'' ph''}, RepL K cm' H' N'' ph'' xs vs → RepL K cm' H' N'' ph'' ds us → RepL K cm' H' N'' ph'' ys ws) → Q v (upd H p (.lst ws))) → r (.ref p) us H Q
section
variable {K : PySem.W.Frag}
theorem RepL.eraseIdx {cm : Nat → Addr} {H : Hp} {N : NS} {ph : Option Addr} : ∀ {ds : List D} {vs : List V} (n : Nat), RepL K cm H N ph ds vs → RepL K cm H N ph (ds.eraseIdx n) (vs.eraseIdx n)
  | [], _, n, h => by cases h.unnil; simpa using RepL.nil
  | d :: ds, vs, n, h => by
    obtain ⟨v, r, rfl, h1, h2⟩ := h.uncons
    cases n with
    | zero => exact h2
    | succ n => exact RepL.cons h1 (RepL.eraseIdx n h2)
theorem ins_ok : MutOk K insF (fun x vs H Q => ∃ (l : Addr) (xs : List V) (i : Int) (y : V), x = .ref l ∧ vs = [.int i, y] ∧ H l = some (.lst xs) ∧ xs.length < sizeLine ∧ 0 ≤ i ∧ i < 2 ^ 63 ∧ Q .non (upd H l (.lst (xs.take i.toNat ++ [y] ++ xs.drop i.toNat)))) := by
  intro cm H N N' ph ph' xs ds ys vs us p Q e hp r s hq
  unfold insF at e
  split at e
  · rename_i k d
    obtain ⟨v1, r1, rfl, q1, q2⟩ := s.uncons
    obtain ⟨v2, r2, rfl, q3, q4⟩ := q2.uncons
    cases q4.unnil
    cases int_of q1
    by_cases hc : 0 ≤ k ∧ k < 2 ^ 62 ∧ xs.length < line
    · rw [if_pos hc] at e
      cases e
      refine ⟨p, vs, k, v2, rfl, rfl, hp, by rw [sizeLine_eq, ← r.length]; exact hc.2.2, hc.1, by have := hc.2.1; omega, hq _ _ fun a b => ?_⟩
      obtain ⟨_, _, z, _, b2⟩ := b.uncons
      cases z
      obtain ⟨_, _, z, b3, _⟩ := b2.uncons
      cases z
      exact ((RepL.take _ a).append (RepL.one b3)).append (RepL.drop _ a)
    · rw [if_neg hc] at e; cases e
  · cases e
theorem popAt_ok : MutOk K popAtF L2.rPopAt := by
  intro cm H N N' ph ph' xs ds ys vs us p Q e hp r s hq
  unfold popAtF at e
  split at e
  · rename_i k
    obtain ⟨v1, r1, rfl, q1, q2⟩ := s.uncons
    cases q2.unnil
    cases int_of q1
    by_cases hc : -(2 ^ 62) ≤ k ∧ k < 2 ^ 62
    · rw [if_pos hc] at e
      cases ej : ixP xs.length k with
      | none => rw [ej] at e; cases e
      | some j =>
        rw [ej] at e
        cases e
        have hj : j < xs.length := by
          unfold ixP at ej
          split at ej
          · cases ej; omega
          · split at ej
            · cases ej; omega
            · cases ej
        have hsq : seqIndex? k vs.length = some j := by
          rw [← r.length]
          unfold ixP at ej
          unfold seqIndex?
          split at ej
          · rename_i h
            cases ej
            simp [h.1, h.2]
            omega
          · split at ej
            · rename_i h1 h2
              cases ej
              simp
              omega
            · cases ej
        refine ⟨p, vs, k, j, vs[j]'(by rw [← r.length]; exact hj), rfl, rfl, hp, by omega, by omega, hsq, List.getElem?_eq_getElem _, hq _ _ fun a _ => RepL.eraseIdx j a⟩
    · rw [if_neg hc] at e; cases e
  · cases e
theorem RepL.dropLast {cm : Nat → Addr} {H : Hp} {N : NS} {ph : Option Addr} {ds : List D} {vs : List V} (h : RepL K cm H N ph ds vs) : RepL K cm H N ph ds.dropLast vs.dropLast := by
  rw [List.dropLast_eq_take, List.dropLast_eq_take, h.length]
  exact RepL.take _ h
theorem pop_ok : MutOk K popF L2.rPop := by
  intro cm H N N' ph ph' xs ds ys vs us p Q e hp r s hq
  unfold popF at e
  split at e
  · cases s.unnil
    by_cases hx : xs = []
    · rw [if_pos hx] at e; cases e
    · rw [if_neg hx] at e
      cases e
      have hl : vs.length - 1 < vs.length := by
        have := r.length
        have : xs.length ≠ 0 := fun z => hx (List.length_eq_zero_iff.mp z)
        omega
      exact ⟨p, vs, vs[vs.length - 1], rfl, rfl, hp, List.getElem?_eq_getElem hl, hq _ _ fun a _ => RepL.dropLast a⟩
  · cases e
theorem rev_ok : MutOk K revF L2.rReverse := by
  intro cm H N N' ph ph' xs ds ys vs us p Q e hp r s hq
  unfold revF at e
  split at e
  · cases s.unnil
    cases e
    exact ⟨p, vs, rfl, rfl, hp, hq _ _ fun a _ => RepL.reverse a⟩
  · cases e
end
section
variable {X : Cx} {c : Cfg} {q : Sq} {pos : Pos} {e : Expr} {es : List Expr} {fs : List EF} {f : List FL.D → List FL.D → Option (List FL.D)} {r : V → List V → Hp → VK → Prop}
theorem mut_end {K : PySem.W.Frag} {cm : Nat → Addr} {xa : Option (Addr × Nat × Addr)} {Wx : WX} {D : Ends} {i : Nat} {ρ : Env} {σ : St} {ph1 : Option Addr} {H1 : Hp} {w1 : Wd} {xs ds : List FL.D} {us : List V} {p : Addr} (hr : MutOk K f r) (e0 : ρ[i]? = some (.own xs)) (e1 : σ[i]? = some (some (.ref p))) (h1 : StS K cm xa q ρ ph1 w1 σ H1)
    (rd : RepL K cm H1 (NN q ρ σ ph1) ph1 ds us) (hp1 : Post2 K cm xa q Wx D H1 (NN q ρ σ ph1) ph1 (mutK i f xs ρ ds w1)) : r (.ref p) us H1 (fun _ H' => D.nx σ H') := by
  obtain ⟨p', vs', e1', o', hv', r'⟩ := h1.env.ownd e0
  rw [e1] at e1'; cases e1'
  unfold mutK at hp1
  cases ef : f xs ds with
  | none => rw [ef] at hp1; exact (show False from hp1).elim
  | some ys =>
    rw [ef] at hp1
    refine hr ef hv' r' rd fun v ws hw => ?_
    obtain ⟨h2, k2⟩ := h1.chg e0 e1 (hw r' rd)
    exact hp1 σ _ ph1 h2 k2.kp
theorem psx_mut (i : Nat) {x m : Str} {id : String} {p0 p1 p2 : Pos} (hr : MutOk X.K f r) (slot : PySem.Slot "list" m id) (hty : typeOf (.builtin id) = pure (.type "method_descriptor")) (hm : L2.MtR X id r) (ha : PAX X c (e :: es) fs) (hN : X.N[i]? = some x := by rfl)
    (hv : L2.Vis X.env.scope x := by first | exact Or.inl rfl | exact Or.inr (Or.inl rfl) | exact Or.inr (Or.inr rfl)) (hd : (x == ("__debug__" : Str)) = false := by decide) (hcd : (x == ("__classdict__" : Str)) = false := by decide)
    (hst : starEach (e :: es) X.env = (false, eval e X.env) :: starEach es X.env := by rfl) (hs : swapsWith (.Call (.Attribute (.Name x p0) m p1) (e :: es) [] p2) none pos.line X.env = pure false := by rfl) (hpl : (backTo p2 (starEach es X.env)).any (·.1) = false := by rfl)
    (hbase : attributeBase (.Name x p0) m X.env (eval (.Name x p0) X.env) = eval (.Name x p0) X.env := by rfl)
    (hw : ((backTo p2 (starEach (e :: es) X.env)).all (fun x => !x.1) && (backToKw p2 (keywordEach [] X.env)).all (fun x => x.1.isSome) && decide ((e :: es).length + ([] : List Keyword).length + (if ([] : List Keyword).isEmpty then 0 else 1) < 30)) = true := by rfl)
    (hl : (p1.endLine == p2.line) = true := by rfl) : PSX X c q (.Expr (.Call (.Attribute (.Name x p0) m p1) (e :: es) [] p2) pos) (sMut i f fs) :=
  PS.to (L2.ps_expr (L2.pe_bm PySem.F.plainAttrs_list slot hty hm (L2.pe_var hN hv hd hcd) ha hbase hw hl hst hpl) hs) fun D σ H ⟨ρ, ph, w, h, hp⟩ => by
    unfold sMut at hp
    cases e0 : ρ[i]? with
    | none => rw [e0] at hp; exact (show False from hp).elim
    | some sl =>
      rw [e0] at hp
      cases sl with
      | own xs =>
        obtain ⟨p, vs, e1, o, hv, rr⟩ := h.env.ownd e0
        exact ⟨.ref p, e1, .inl ⟨rfl, vs, .inl (.inl hv)⟩, _, ρ, ph, w, (evs_run2 h hp).imp fun us H1 ⟨ds, ph1, w1, l, rd, h1, k, hp1⟩ => mut_end hr e0 e1 h1 rd hp1⟩
      | _ => exact (show False from hp).elim
theorem psx_mut0 (i : Nat) {x m : Str} {id : String} {p0 p1 p2 : Pos} (hr : MutOk X.K f r) (slot : PySem.Slot "list" m id) (hty : typeOf (.builtin id) = pure (.type "method_descriptor")) (hm : L2.MtR X id r) (hN : X.N[i]? = some x := by rfl)
    (hv : L2.Vis X.env.scope x := by first | exact Or.inl rfl | exact Or.inr (Or.inl rfl) | exact Or.inr (Or.inr rfl)) (hd : (x == ("__debug__" : Str)) = false := by decide) (hcd : (x == ("__classdict__" : Str)) = false := by decide)
    (hs : swapsWith (.Call (.Attribute (.Name x p0) m p1) [] [] p2) none pos.line X.env = pure false := by rfl)
    (hbase : attributeBase (.Name x p0) m X.env (eval (.Name x p0) X.env) = eval (.Name x p0) X.env := by rfl)
    (hl : (p1.endLine == p2.line) = true := by rfl) : PSX X c q (.Expr (.Call (.Attribute (.Name x p0) m p1) [] [] p2) pos) (sMut i f []) :=
  PS.to (L2.ps_expr (L2.pe_bm0 PySem.F.plainAttrs_list slot hty hm (L2.pe_var hN hv hd hcd) hbase hl) hs) fun D σ H ⟨ρ, ph, w, h, hp⟩ => by
    unfold sMut at hp
    cases e0 : ρ[i]? with
    | none => rw [e0] at hp; exact (show False from hp).elim
    | some sl =>
      rw [e0] at hp
      cases sl with
      | own xs =>
        obtain ⟨p, vs, e1, o, hv, rr⟩ := h.env.ownd e0
        exact ⟨.ref p, e1, .inl ⟨rfl, vs, .inl (.inl hv)⟩, mut_end (ds := []) (us := []) hr e0 e1 h RepL.nil hp⟩
      | _ => exact (show False from hp).elim
end
end FL

/-! F15: enumerate over lists and tuples. -/
namespace FL
open PySem
open L2 (V Hp HO Cx Inv VK XK TE TT TA TS TI TG PE PT PA PS PSs PI PG Ends WX RelV Vals Rd upd upd_same upd_ne ne_of_none EP TP AP OpR R2 CallR FnOk Room Binds)
section
open PyProof PyProof.Rows
theorem enum1_meets {u : Value} {ob : Obj} {G : Heap → Prop} (B : Begins u ob G) :
    Meets (Builtin.«enumerate.__new__» ⟨[.type "enumerate", u], []⟩) fun _ R t => G t.heap ∧
      R (.ok (.ret (.ref (t.heap.push ob).objs.size))) { t with heap := (t.heap.push ob).push { cls := .type "enumerate", data := .fields #[.none, .bool false, .ref t.heap.objs.size, rawInt 0, .none, .none] } } :=
  .of_wp fun pr wo Ar R t hyp => by
    obtain ⟨hp, gs, dr, tk, os⟩ := t
    obtain ⟨g0, hyp⟩ := hyp
    have sub0 := sub_enumerate
    have it0 : ∀ {A' : Around} {E : Value → Shared → Prop} {Q : Value → Shared → Prop}, Q (.ref hp.objs.size) ⟨hp.push ob, gs, dr, tk, os⟩ → wpAny (model pr wo) A' (pyIter u) Q E ⟨hp, gs, dr, tk, os⟩ := fun q => B.iter pr wo _ _ ⟨hp, gs, dr, tk, os⟩ _ g0 q
    wp_walk using it0
    refine wpAny_stack_any fun stk => wpAny_pure ?_
    split
    · rename_i cc _ _ _ _ _
      cases (cc == Value.type "enumerate") <;> (wp_walk using it0; exact ⟨_, rfl, hyp⟩)
    · (wp_walk using it0; exact ⟨_, rfl, hyp⟩)
theorem enum1_call {prog : Program} {w : World} {A : Around} {E : Value → Shared → Prop} {s : Shared} {u : Value} {ob : Obj} {G : Heap → Prop} {Q : Value → Shared → Prop} (B : Begins u ob G) (g0 : G s.heap)
    (hyp : ∀ h', IsEnum h' (s.heap.objs.size + 1) s.heap.objs.size 0 .none → h'.get? s.heap.objs.size = some ob → (∀ b o, s.heap.get? b = some o → h'.get? b = some o) → Q (.ref (s.heap.objs.size + 1)) { s with heap := h' }) :
    wpAny (model prog w) A (call (.type "enumerate") [u]) Q E s := by
  refine callType_new F.called_enumerate (by decide) (F.typeCall_enumerate_1 _) (F.newCall_enumerate_1 _) (fun obj => F.args_object_init_2 obj _) F.entry_enumerate_new (enum1_meets B) ⟨g0, ?_⟩
  have sz : (s.heap.push ob).objs.size = s.heap.objs.size + 1 := Heap.size_push ..
  show _ ∧ _
  rw [sz]
  have en : IsEnum ((s.heap.push ob).push { cls := .type "enumerate", data := .fields #[.none, .bool false, .ref s.heap.objs.size, rawInt 0, .none, .none] }) (s.heap.objs.size + 1) s.heap.objs.size 0 .none := by
    have z := Heap.get?_push_size (s.heap.push ob) (o := { cls := .type "enumerate", data := .fields #[.none, .bool false, .ref s.heap.objs.size, rawInt 0, .none, .none] }) rfl
    rw [sz] at z
    exact z
  exact ⟨⟨_, en, rfl⟩, hyp _ en (Heap.get?_push_of_some _ (Heap.get?_push_size _ B.free)) fun b o z => Heap.get?_push_of_some _ (Heap.get?_push_of_some _ z)⟩
end
/-- a tuple's items, each in a new couple with its index -/
def ItE (K : PySem.W.Frag) (a : Addr) : L2.It :=
  ⟨fun i H => ∃ (xs : List V) (y : V), L2.SqT K H a xs ∧ xs[i]? = some y, fun i H v H' => ∃ T y, v = .ref T ∧ H T = none ∧ H' = upd H T (.tup [.int (i : Nat), y]) ∧ ∀ xs, L2.SqT K H a xs → xs[i]? = some y, fun i H => ∃ xs : List V, L2.SqT K H a xs ∧ xs.length ≤ i⟩
section
open PyProof PyProof.Rows L2
theorem walk_enumT {K : PySem.W.Frag} {a : Addr} {xs : List V} : Walk (ItE K a) xs.length (fun H => SqT K H a xs) (YPair (fun i => some (.int (i : Nat))) fun i => xs[i]?) := by
  refine ⟨fun i _ lt sq => ⟨xs, xs[i], sq, by simp [lt]⟩, fun _ sq => ⟨xs, sq, Nat.le_refl _⟩, fun i H v H' _ sq yl => ?_⟩
  obtain ⟨T, y, a1, a2, a3, a4⟩ := yl
  exact ⟨T, .int (i : Nat), y, a1, a2, a3, rfl, a4 xs sq⟩
theorem turn_enumT {P : Program} {w : World} {K : PySem.W.Frag} {elts : List Expr} {kk : Nat} {tpos : Pos} (a en ti : Addr) :
    Turn P w K (.Tuple elts kk tpos) (ItE K a) [en, ti] en fun i hp => (∃ old, IsEnum hp en ti ((i : Nat) : Int) old) ∧ hp.IsTupleIter ti a i ∧ en ≠ ti ∧ a ≠ ti where
  mem := List.mem_cons_self ..
  obj := fun i hp stt b mb => by
    obtain ⟨⟨old, isE⟩, ⟨o, ge, ce, de⟩, _⟩ := stt
    rcases List.mem_cons.mp mb with z | z
    · rw [z]
      exact ⟨_, isE, fun v q => nomatch q⟩
    · rw [List.mem_singleton.mp z]
      exact ⟨o, ge, fun v q => by rw [de] at q; cases q⟩
  keep := fun i hp hp' stt kp => ⟨⟨stt.1.choose, kp en (List.mem_cons_self ..) _ stt.1.choose_spec⟩, stt.2.1.at fun o q => kp ti (by simp) o q, stt.2.2⟩
  item := by
    intro X e1 e2 e3 cl i pins s σ H E Iv fps stt go
    subst e1 e2 e3
    obtain ⟨⟨old, isE⟩, isT, ne1, ne2⟩ := stt
    obtain ⟨xs, y, sq, gy⟩ := go
    obtain ⟨its, rv, tp, lz⟩ := Iv.tuple sq
    obtain ⟨u, gu, ru⟩ := rv.get gy
    have lt1 : en < s.heap.objs.size := Heap.lt_size isE
    have lt2 : ti < s.heap.objs.size := by obtain ⟨_, q, _⟩ := isT; exact Heap.lt_size q
    have tpl : s.heap.IsTuple a its.toArray := tp
    have ne3 : en ≠ a := fun z => by
      obtain ⟨o, q, qc, _⟩ := tpl
      rw [← z] at q
      have isE' := isE
      unfold IsEnum at isE'
      rw [isE'] at q
      cases q
      exact absurd (show (Value.type "enumerate") = .type "tuple" from qc) (by decide)
    have li : i < its.toArray.size := by
      have := (List.getElem?_eq_some_iff.mp gu).1
      simpa using this
    refine wpAny_pyNext_enum_itemC (Draws.tuple (show X.A.in1.handled = none from Iv.ok.hd cl) ti a ne2 its.toArray) isE ⟨isT, tpl⟩ li ne1 (by simp [ne1, ne3]) fun x h1 tk px out st1 gT szz kp => ?_
    have ex : x = u := by
      have : its[i]? = some x := by simpa using px
      rw [gu] at this
      exact (Option.some.inj this).symm
    subst ex
    refine ⟨_, rfl, wpAny_letOwnedTupleGo_enum (s := { s with heap := h1, toks := tk + 1 }) out fun h2 isE2 same => ?_⟩
    have gT2 : h2.get? s.heap.objs.size = some { cls := .type "tuple", data := .seq #[.int i tk, x] } := (same.2 _ (Nat.ne_of_gt lt1)).trans gT
    have nw : ObjOk X.prog X.w (upd H s.heap.objs.size (.tup [.int (i : Nat), y])) h2 s.heap.objs.size (.tup [.int (i : Nat), y]) := ⟨by show 2 ≤ sizeLine; decide, [.int i tk, x], .cons ⟨_, rfl⟩ (.cons ru .nil), ⟨_, gT2, rfl, _, rfl⟩⟩
    have I1 : Inv X pins σ (upd H s.heap.objs.size (.tup [.int (i : Nat), y])) { s with heap := h2, toks := tk + 1 } := Iv.turnedNew (ch := [en, ti]) (fun b o nb q => (same.2 b fun z => nb (by simp [z])).trans (kp b o (fun z => nb (by simp [z])) (fun z => nb (by simp [z])) q)) fps (Nat.le_refl _) nw
    refine ⟨.ref s.heap.objs.size, _, I1, rfl, ⟨_, y, rfl, Iv.hok.fresh (Nat.le_refl _), rfl, fun ys sy => by rw [Iv.tuple_inj sy sq]; exact gy⟩, ⟨⟨x, by rw [show ((i + 1 : Nat) : Int) = (i : Int) + 1 by omega]; exact isE2⟩, st1.1.at fun o q => (same.2 ti (Ne.symm ne1)).trans q, ne1, ne2⟩, fun b mb => ?_⟩
    have lb : b < s.heap.objs.size := by
      rcases List.mem_cons.mp mb with z | z
      · rw [z]; exact lt1
      · rw [List.mem_singleton.mp z]; exact lt2
    rw [upd_ne (Nat.ne_of_lt lb)]
    exact (fps b mb).1
  done := by
    intro X e1 e2 e3 cl i pins s σ H E Iv fps stt stp
    subst e1 e2 e3
    obtain ⟨⟨old, isE⟩, isT, ne1, ne2⟩ := stt
    obtain ⟨xs, sq, lx⟩ := stp
    obtain ⟨its, rv, tp, lz⟩ := Iv.tuple sq
    obtain ⟨f0, f1, f2, f3, f4, f5⟩ := fps ti (by simp)
    have ll := rv.length
    have tpl : s.heap.IsTuple a its.toArray := tp
    have hn : its.toArray[i]? = none := by simp; omega
    have hT : s.TypeIs (.ref en) "enumerate" := ⟨_, isE, rfl⟩
    unfold pyNext
    refine wpAny_bind (wpAny_attempt (wpAny_callSpecial?_slot (name := Str.ofString "__next__") hT F.slot_enumerate_next (wpAny_call_entry F.slot_enumerate_next hT F.entry_enumerate_next ?_ (F.args_enumerate_next_1 _))))
    show wpAny _ _ (field (.ref en) 2 >>= _) _ _ _
    refine wpAny_bind (wpAny_field isE rfl (x := .ref ti) rfl (wpAny_bind (wpAny_nextOf_tuple_end (show X.A.in1.handled = none from Iv.ok.hd cl) isT tpl hn fun h1 x1 eb xx => ?_)))
    obtain ⟨o, ge, ce⟩ := xx
    exact wpAny_bind (wpAny_isInstance (T := "StopIteration") (b := true) ⟨o, ge, ce⟩ isSubtype_stop (wpAny_pure ⟨rfl, Iv.turned (t' := s.toks) (fun b o nb q => eb b o nb q) f0 f1 f3 f4 f5⟩))
  self := fun A i s Q E stt q => wpAny_pyIter_enum stt.1.choose_spec q
end
end FL

/-! F16: enumerate as a rule. -/
namespace FL
open PySem
open L2 (It V Hp HO Cx Inv VK XK TE TT TA TS TI TG PE PT PA PS PSs PI PG Ends WX RelV Vals Rd upd upd_same upd_ne ne_of_none EP TP AP OpR R2 CallR FnOk Room Binds)
section
open PyProof PyProof.Rows
theorem pi_enumA {X : Cx} {e : Expr} {te : TE} {p pos tpos : Pos} {elts : List Expr} {kk : Nat} (hg : L2.Gl X "enumerate") (hm : X.mg "enumerate" = none) (he : PE X e te) (hst : starEach [e] X.env = [(false, eval e X.env)] := by rfl) (hs : starEach (e :: []) X.env = (false, eval e X.env) :: starEach [] X.env := by rfl) :
    PI X (.Tuple elts kk tpos) (.Call (.Name "enumerate" p) [e] [] pos) (fun σ H R => te σ H fun x H1 => ∃ a, x = .ref a ∧ ((∃ xs, L2.SqL X.K H1 a xs ∧ R (L2.Ite X.K a) H1) ∨ (∃ xs, L2.SqT X.K H1 a xs ∧ R (ItE X.K a) H1))) := by
  refine ⟨fun pins s σ H R I h => ?_⟩
  have ha : PA X [e] (fun σ H Q => te σ H fun x H1 => Q [x] H1) := PA.to (L2.pa_cons he L2.pa_nil hs) fun σ H Q z => z
  refine Call_ (L2.ld_blt I hg hm boot_enumerate (callWith_type1 (L2.thn (ha.run pos pins s σ H (fun vs H1 => match vs with | [x] => (∃ a, x = .ref a ∧ ((∃ xs, L2.SqL X.K H1 a xs ∧ R (L2.Ite X.K a) H1) ∨ (∃ xs, L2.SqT X.K H1 a xs ∧ R (ItE X.K a) H1))) | _ => False) I h) fun us t ⟨vs, H1, I1, r1, q1⟩ => ?_) hst rfl))
  have low : ∀ b, b = t.heap.objs.size + 1 ∨ b = t.heap.objs.size → t.heap.objs.size ≤ b := fun b z => by rcases z with z | z <;> omega
  cases r1 with
  | nil => exact False.elim q1
  | cons r rr =>
    cases rr with
    | cons _ _ => exact False.elim q1
    | nil =>
      obtain ⟨a, ex, q1⟩ := q1
      subst ex
      cases r
      rcases q1 with ⟨xs, sq, q⟩ | ⟨xs, sq, q⟩
      · obtain ⟨its, rv, pl, lz⟩ := I1.list sq
        refine enum1_call (begins_list a its.toArray) pl.isList fun h' en it kp => wpAny_pyIter_enum en ?_
        have it' : h'.IsListIter t.heap.objs.size a 0 := ⟨_, it, rfl, rfl⟩
        have I2 : Inv X pins σ H1 { t with heap := h' } := I1.kept (t' := t.toks) kp
        exact ⟨t.heap.objs.size + 1, [t.heap.objs.size + 1, t.heap.objs.size], _, _, H1, rfl, I2, L2.turn_enum a (t.heap.objs.size + 1) t.heap.objs.size, ⟨⟨.none, en⟩, it', Nat.succ_ne_self _⟩, fun b mb => I1.fpOk (low b (by simpa using mb)) (I1.hok.fresh (low b (by simpa using mb))), q⟩
      · obtain ⟨its, rv, pl, lz⟩ := I1.tuple sq
        have tpl : t.heap.IsTuple a its.toArray := pl
        refine enum1_call (begins_tuple a its.toArray) tpl fun h' en it kp => wpAny_pyIter_enum en ?_
        have it' : h'.IsTupleIter t.heap.objs.size a 0 := ⟨_, it, rfl, rfl⟩
        have lt : a < t.heap.objs.size := by obtain ⟨_, z, _⟩ := tpl; exact Heap.lt_size z
        have I2 : Inv X pins σ H1 { t with heap := h' } := I1.kept (t' := t.toks) kp
        exact ⟨t.heap.objs.size + 1, [t.heap.objs.size + 1, t.heap.objs.size], _, _, H1, rfl, I2, turn_enumT a (t.heap.objs.size + 1) t.heap.objs.size, ⟨⟨.none, en⟩, it', Nat.succ_ne_self _, Nat.ne_of_lt lt⟩, fun b mb => I1.fpOk (low b (by simpa using mb)) (I1.hok.fresh (low b (by simpa using mb))), q⟩
end
section
variable {K : PySem.W.Frag} {cm : Nat → Addr}
theorem feeds_enumT {a : Addr} {ds : List D} {vs : List V} : Feeds K cm (ItE K a) (enumL ds) (fun H N ph => TN K H N a vs ∧ RepL K cm H N ph ds vs) :=
  have el : (enumL ds).length = ds.length := by unfold enumL; simp
  ⟨fun h k m => ⟨h.1.keep k, h.2.keep k m ds vs⟩, fun H => L2.SqT K H a vs ∧ (enumL ds).length = vs.length, L2.YPair (fun i => some (.int (i : Nat))) (fun i => vs[i]?), ⟨fun i H hi h => by rw [h.2] at hi; exact (walk_enumT (K := K) (a := a) (xs := vs)).goes i H hi h.1, fun H h => by rw [h.2]; exact (walk_enumT (K := K) (a := a) (xs := vs)).stops H h.1, fun i H x H' hi h => by rw [h.2] at hi; exact (walk_enumT (K := K) (a := a) (xs := vs)).yields i H x H' hi h.1⟩,
    fun H N ph h => ⟨h.1.seq, el.trans h.2.length⟩, fun i d H N ph x H' h hn e y => by
      obtain ⟨T, x1, y1, rfl, hT, rfl, e1, e2⟩ := y
      obtain ⟨d1, e3, rfl⟩ := enumL_get e
      obtain ⟨v, e4, r⟩ := h.2.get e3
      have e2 : vs[i]? = some y1 := e2
      rw [e2] at e4; cases e4
      cases e1
      exact pair_new hn hT (by simp [Rep]) r⟩
variable {X : Cx} {c : Cfg}
theorem pix_enum {e : Expr} {fe : EF} {p pos tpos : Pos} {elts : List Expr} {kk : Nat} (hg : L2.Gl X "enumerate") (hm : X.mg "enumerate" = none) (he : PX X c e fe) (hst : starEach [e] X.env = [(false, eval e X.env)] := by rfl) (hs : starEach (e :: []) X.env = (false, eval e X.env) :: starEach [] X.env := by rfl) :
    PIX X c (.Tuple elts kk tpos) (.Call (.Name "enumerate" p) [e] [] pos) (iEnum fe) :=
  PI.to (pi_enumA hg hm he hst hs) fun σ H R ⟨O, ρ, ph, w, h⟩ => ⟨O, ρ, ph, w, (Run.bind (rel := relV X.K c.cm O) h).imp fun v H1 ⟨d, ph1, w1, e1, s1, r1, h1⟩ => by
    cases d with
    | lst ds =>
      obtain ⟨a, vs, rfl, ⟨n, t⟩, rl⟩ := lst_of r1
      exact ⟨a, rfl, .inl ⟨vs, .inl (.inl t), h1.ret (b := L2.Ite X.K a) ⟨_, ⟨.inl ⟨n, .inl t⟩, rl⟩, feeds_enum⟩⟩⟩
    | frz ds =>
      obtain ⟨a, vs, rfl, t, rl⟩ := frz_of r1
      exact ⟨a, rfl, .inl ⟨vs, t.seq, h1.ret (b := L2.Ite X.K a) ⟨_, ⟨t, rl⟩, feeds_enum⟩⟩⟩
    | tup ds =>
      obtain ⟨a, vs, rfl, t, rl⟩ := tup_of r1
      exact ⟨a, rfl, .inr ⟨vs, t.seq, h1.ret (b := ItE X.K a) ⟨_, ⟨t, rl⟩, feeds_enumT⟩⟩⟩
    | _ => exact h1.no⟩
end
end FL

/-! F18: a comprehension that is given to a name at once. -/
namespace FL
open PySem
open L2 (It V Hp HO Cx Inv VK XK TE TT TA TS TI TG PE PT PA PS PSs PI PG Ends WX RelV Vals Rd upd upd_same upd_ne ne_of_none EP TP AP OpR R2 CallR FnOk Room Binds)
section
variable {X : Cx} {c : Cfg} {q : Sq}
theorem own_tail {D : Ends} {ρ : Env} {σ : St} {H1 : Hp} {ph1 : Option Addr} {w1 : Wd} {i : Nat} {ds : List FL.D} {vs : List V} {p : Addr} (h1 : StS X.K c.cm c.xa q ρ ph1 w1 σ H1) (r : RepL X.K c.cm H1 (NN q ρ σ ph1) ph1 ds vs) (hpn : H1 p = none)
    (hp1 : Post2 X.K c.cm c.xa q c.Wx D H1 (NN q ρ σ ph1) ph1 (.nx (ρ.set i (.own ds)) w1)) : D.nx (σ.set i (some (.ref p))) (upd H1 p (.lst vs)) := by
  by_cases hl : i < ρ.length
  · obtain ⟨h2, k2⟩ := h1.seto hl hpn r
    exact hp1 _ _ ph1 h2 k2.kp
  · have e1 : ρ.set i (.own ds) = ρ := List.set_eq_of_length_le (by omega)
    have e2 : σ.set i (some (.ref p)) = σ := List.set_eq_of_length_le (by rw [h1.env.len]; omega)
    rw [e1] at hp1
    rw [e2]
    exact hp1 σ _ ph1 (h1.ext (ext_new hpn) .refl (h1.hand.new hpn)) (Ext.keep (ext_new hpn) .refl).kp
section
variable {i : Nat} {y : Str} {py : Pos} {elt tg iter : Expr} {ifs : List Expr} {scope : Scope} {own : List (Str × Nat)} {pos spos : Pos} {f : IF} {g : GF} {gt : TG} {is : List Nat} {t : TF} {fe : EF}
theorem psx_ownLc (hc : X.calm = true) (hN : X.N.Nodup) (hy : X.N[i]? = some y) (hyl : X.env.scope.names.lookup y = some .local) (hsw : swapsWith (.ListComp elt [⟨tg, iter, ifs, 0⟩] scope pos) (some (.Name y py)) spos.line X.env = pure true)
    (hi : PIX X c tg iter f) (ok : L2.BlkOk X.N X.env.scope scope own) (his : own.map (·.2) = is) (hg : ∀ (s : Shared) (H : Hp) (C : Addr) (cl : List (Str × Addr)) (fp : List Addr), PG (X.blk s H scope (compEnvC scope cl C X.env) fp) tg gt) (hG : TGX X.K c.cm g gt is)
    (ht : ∀ (s : Shared) (H : Hp) (C : Addr) (cl : List (Str × Addr)) (fp : List Addr), PTSX (X.blk s H scope (compEnvC scope cl C X.env) fp) ⟨c.cm, c.xa, noW⟩ ifs t)
    (he : ∀ (s : Shared) (H : Hp) (C : Addr) (cl : List (Str × Addr)) (fp : List Addr), PX (X.blk s H scope (compEnvC scope cl C X.env) fp) ⟨c.cm, c.xa, noW⟩ elt fe) (hs : ∀ x, foldedSetIterable iter X.env x = pure x := by intro _; rfl) :
    PSX X c q (.Assign [.Name y py] (.ListComp elt [⟨tg, iter, ifs, 0⟩] scope pos) spos) (sOwn i (nLc f is g t fe)) :=
  PS.to (L2.ps_setLc hc hN hy hyl hsw hi ok hg ht he hs) fun D σ H ⟨ρ, ph, w, h, hp⟩ => lc_read his hG σ H _ ⟨_, ρ, ph, w, (onE_run h hp).imp fun vs H1 ⟨ds, ph1, w1, r, h1, k, hp1⟩ p hpn => own_tail h1 r hpn hp1⟩
theorem psx_setLc (hc : X.calm = true) (hN : X.N.Nodup) (hy : X.N[i]? = some y) (hyl : X.env.scope.names.lookup y = some .local) (hsw : swapsWith (.ListComp elt [⟨tg, iter, ifs, 0⟩] scope pos) (some (.Name y py)) spos.line X.env = pure true)
    (hi : PIX X c tg iter f) (ok : L2.BlkOk X.N X.env.scope scope own) (his : own.map (·.2) = is) (hg : ∀ (s : Shared) (H : Hp) (C : Addr) (cl : List (Str × Addr)) (fp : List Addr), PG (X.blk s H scope (compEnvC scope cl C X.env) fp) tg gt) (hG : TGX X.K c.cm g gt is)
    (ht : ∀ (s : Shared) (H : Hp) (C : Addr) (cl : List (Str × Addr)) (fp : List Addr), PTSX (X.blk s H scope (compEnvC scope cl C X.env) fp) ⟨c.cm, c.xa, noW⟩ ifs t)
    (he : ∀ (s : Shared) (H : Hp) (C : Addr) (cl : List (Str × Addr)) (fp : List Addr), PX (X.blk s H scope (compEnvC scope cl C X.env) fp) ⟨c.cm, c.xa, noW⟩ elt fe) (hs : ∀ x, foldedSetIterable iter X.env x = pure x := by intro _; rfl) :
    PSX X c q (.Assign [.Name y py] (.ListComp elt [⟨tg, iter, ifs, 0⟩] scope pos) spos) (sSet i (eNew (nLc f is g t fe))) :=
  PS.to (L2.ps_setLc hc hN hy hyl hsw hi ok hg ht he hs) fun D σ H ⟨ρ, ph, w, h, hp⟩ => by
    have rr := (onE_run (rel := relV X.K c.cm (OwnS q.O0 ρ σ)) h hp)
    have r2 : Run X.K c.cm c.xa (OwnS q.O0 ρ σ) (relV X.K c.cm (OwnS q.O0 ρ σ)) c.Wx ρ σ ph H w (M.bind (nLc f is g t fe ρ) fun xs => M.ret (.lst xs)) _ := rr
    refine lc_read his hG σ H _ ⟨_, ρ, ph, w, (Run.bind (rel := relL X.K c.cm (OwnS q.O0 ρ σ)) r2).imp fun vs H1 ⟨ds, ph1, w1, e1, s1, r1, h1⟩ p hpn => ?_⟩
    obtain ⟨d, ph2, w2, r, h2, k, hp2⟩ := h1.lst hpn r1
    exact hp2 _ _ ph2 (h2.setd r) (keep_set fun _ z => by cases z).kp
end
end
end FL

/-! F17: repr of a list or a tuple, where nothing is being written out above: in the law's own def. The end for a law that has it. -/
namespace FL
open PySem
open L2 (V Hp HO Cx Inv VK XK TE TT TA TS TI TG PE PT PA PS PSs PI PG Ends WX RelV Vals Rd upd upd_same upd_ne ne_of_none EP TP AP OpR R2 CallR FnOk Room Binds)
theorem bt_repr : bootBuiltins "repr" = some (.builtin "repr") := by decide +kernel
def reprK (d : D) : M D := if D.flat 60 d = true ∧ d.py.showable = true ∧ d.py.shown.length ≤ sizeLine then M.ret (.str d.py.shown) else M.fail
def reprL : List D → M D
  | [.lst xs] => reprK (.lst xs)
  | [.tup xs] => reprK (.tup xs)
  | _ => M.fail
def rShow (K : PySem.W.Frag) : List V → Hp → VK → Prop := fun xs H Q => ∃ a d, xs = [V.ref a] ∧ L2.Dp K H (.ref a) d ∧ d.showable = true ∧ d.canLay0 = true ∧ d.depth ≤ 60 ∧ d.shown.length ≤ sizeLine ∧ Q (.str d.shown) H
theorem call_show {X : Cx} (hG : X.A.guards = some []) (hu : X.A.units + 64 < cLine) : CallR X (.builtin "repr") (rShow X.K) := by
  intro pins s σ H xs us Q I r h
  obtain ⟨a, d, rfl, hd, hs, hl, hdp, hz, q⟩ := h
  obtain ⟨u, rfl, ru⟩ := L2.vals1 r
  obtain rfl : u = Value.ref a := ru
  obtain ⟨as, rd⟩ := L2.Dp.reads I d _ _ hd rfl
  exact repr_of_reads' rd hs (PyData.noDict_hsm (PyData.hasDict_of_canLay d hl)) hG (by omega) (fun _ _ e => e) (fun h' t tk hk => ⟨.str _, H, I.kept hk, ⟨t, rfl⟩, q⟩) hz
theorem show_ok {K : PySem.W.Frag} {cm : Nat → Addr} : OpL K cm reprL (rShow K) := by
  intro xa O Wx ρ σ ph H w Q ds vs r h
  match ds, h with
  | [.lst xs], h =>
    obtain ⟨v, vs', rfl, r1, r2⟩ := r.uncons
    cases r2.unnil
    have h : Run K cm xa O (relV K cm O) Wx ρ σ ph H w (reprK (.lst xs)) Q := h
    unfold reprK at h
    by_cases hc : D.flat 60 (.lst xs) = true ∧ (D.lst xs).py.showable = true ∧ (D.lst xs).py.shown.length ≤ sizeLine
    · rw [if_pos hc] at h
      obtain ⟨a, ws, rfl, _⟩ := lst_of r1
      obtain ⟨l1, l2⟩ := py_lay 60 _ hc.1
      exact ⟨a, _, rfl, dp_of 60 _ _ hc.1 r1, hc.2.1, l1, l2, hc.2.2, h.ret (by show Rep K cm _ _ _ _ _; simp only [Rep])⟩
    · rw [if_neg hc] at h; exact h.no
  | [.tup xs], h =>
    obtain ⟨v, vs', rfl, r1, r2⟩ := r.uncons
    cases r2.unnil
    have h : Run K cm xa O (relV K cm O) Wx ρ σ ph H w (reprK (.tup xs)) Q := h
    unfold reprK at h
    by_cases hc : D.flat 60 (.tup xs) = true ∧ (D.tup xs).py.showable = true ∧ (D.tup xs).py.shown.length ≤ sizeLine
    · rw [if_pos hc] at h
      obtain ⟨a, ws, rfl, _⟩ := tup_of r1
      obtain ⟨l1, l2⟩ := py_lay 60 _ hc.1
      exact ⟨a, _, rfl, dp_of 60 _ _ hc.1 r1, hc.2.1, l1, l2, hc.2.2, h.ret (by show Rep K cm _ _ _ _ _; simp only [Rep])⟩
    · rw [if_neg hc] at h; exact h.no
  | [], h => exact h.no
  | x :: _ :: _, h => cases x <;> exact h.no
  | [.non], h => exact h.no
  | [.bl _], h => exact h.no
  | [.int _], h => exact h.no
  | [.str _], h => exact h.no
  | [.frz _], h => exact h.no
  | [.ins _ _ _], h => exact h.no
  | [.hand], h => exact h.no
theorem px_repr {X : Cx} {c : Cfg} {e : Expr} {fe : EF} {p pos : Pos} (hG : X.A.guards = some []) (hu : X.A.units + 64 < cLine) (hg : L2.Gl X "repr") (hm : X.mg "repr" = none) (he : PX X c e fe) (hs : starEach [e] X.env = (false, eval e X.env) :: starEach [] X.env := by rfl) : PX X c (.Call (.Name "repr" p) [e] [] pos) (eCall reprL [fe]) :=
  px_callB (call_show hG hu) show_ok hg hm bt_repr (pax_cons he pax_nil hs) (he := hs)

/-! ### a def called from outside alone -/
section
open PySem.Spec PyProof.Rows
variable {P : Program} {w : World} {K : PySem.W.Frag} {mg : Str → Option Value} {base : Heap} {cm : Nat → Addr}
/-- what the outermost def promises, called with one value and nothing around it -/
structure TopOk (P : Program) (w : World) (K : PySem.W.Frag) (mg : Str → Option Value) (base : Heap) (f : Addr) (fd : FuncData) (x : Str) (sp : L2.Sp) : Prop where
  go : ∀ (t : Shared) (G : Hp) (z : Value) (y : V) (R : VK) (B : XK), L2.Env0 P w K mg base callerA [] t G → BindsTo t fd ⟨[z], []⟩ [(x, z)] → RelV y z → sp [y] G R B →
    codeAny (model P w) callerA (.call (.ref f) ⟨[z], []⟩) (L2.CR (L2N.CX P w) [] P w G t R B) t
theorem top_of {x qual y : Str} {params : Arguments} {body : List Stmt} {scope : Scope} {f : Addr} {fd : FuncData} {N : List Str} {k : Nat} {b : SF} (F : L2.FunD K x qual params body scope [] [] f fd) (S : L2.FnScope N [y] scope) (hn : 1 ≤ N.length) (room : Room (k + 1) callerA)
    (hb : ∀ (cdv : Value) (t : Shared) (G : Hp) (B : XK) (q : Sq), Room k (callerA.deeper (envOfC qual scope t.heap.objs.size f cdv)) →
      PSSX (L2.cxOf (L2N.CX P w) P w K mg base N qual scope f cdv callerA [] t G B) ⟨cm, none, fun cls d _ G' => B cls d G'⟩ q body b) :
    TopOk P w K mg base f fd y (spX K cm 1 (callF N.length b)) := by
  obtain ⟨oc, od, dV, kV, doc, pm, an, cdv, ct, osl, rfl, lk, code, _, _⟩ := F.ex
  refine ⟨fun t G z v R B start bind rv sp => ?_⟩
  have here : ∀ a o, base.get? a = some o → t.heap.get? a = some o := fun a o e => (start.bs a o e).1
  have frag : K.In t.heap := start.mod.kin.keeps here
  have one : ∀ yz ∈ [y].zip [z], scope.names.lookup yz.1 = some .local ∨ (scope.names.lookup yz.1 = some .cell ∧ ((cellsFrom (t.heap.objs.size + 1) scope.names []).lookup yz.1).isSome = true) := by
    rintro ⟨n, u⟩ m
    rcases S.par n (List.of_mem_zip m).1 with l | l
    · exact .inl l
    · exact .inr ⟨l, PySem.W.cellsFrom_some _ _ _ (.inl l)⟩
  refine codeAny_call_function room.depth (frag _ _ lk) rfl S.co S.gen rfl (PySem.W.codeRec_of frag code) (bind _ _ _ _ ?_)
  refine wpAny_newFunctionEnv_cells S.kind one fun env same t1 enter => ?_
  subst same
  refine ⟨(start.mod.nolimit.keeps here).keeps enter.toInCall.keep, codeAny_func ?_⟩
  obtain ⟨_, O, ds, ph, wd, tr, hand, r, post⟩ := sp
  have go := hb cdv t G B ⟨G, O, ph⟩ (room.deeper _)
  have first : Inv (L2.cxOf (L2N.CX P w) P w K mg base N qual scope f cdv callerA [] t G B) [] (L2.start N [v]) G t1 := L2.inv_start S room.hd start rfl (.cons rv .nil) enter
  have len : ds.length = 1 := r.length
  refine wpAny_mono (go.run [] t1 (L2.start N [v]) G { nx := fun _ G' => R .non G', rt := R } first ⟨vals ds ++ List.replicate (N.length - ds.length) Slot.none, ph, wd, start_sts (by omega) tr hand r, ?_⟩) (fun fl t2 out => ?_) fun e t2 out => out
  · unfold callF at post
    cases e : b (vals ds ++ List.replicate (N.length - ds.length) Slot.none) wd with
    | nx ρ' w' =>
      rw [e] at post
      intro σ' H' ph' s1 k1
      exact post .non H' ph' s1.base s1.phs (s1.hand.less fun _ z => .inl z) (by simp [Rep])
    | rt d w' =>
      rw [e] at post
      intro u H' ph' x1 s1 hk rv
      exact post u H' ph' x1 s1 hk rv
    | ex c ns xs ρ' w' =>
      rw [e] at post
      intro σ' H' ph' dd us s1 k1 hd l rv
      exact post dd H' ph' us s1.base s1.phs (s1.hand.less fun _ z => .inl z) hd l (rv.keep (Keep.less (OO.mono fun _ z => .inl z)) (fun _ e => e) xs us)
    | bk ρ' w' => rw [e] at post; exact (show False from post).elim
    | ct ρ' w' => rw [e] at post; exact (show False from post).elim
    | bad => rw [e] at post; exact (show False from post).elim
  · have done : ∀ {σ2 : St} {G2 : Hp} {v2 : V} {u2 : Value}, Inv (L2.cxOf (L2N.CX P w) P w K mg base N qual scope f cdv callerA [] t G B) [] σ2 G2 t2 → RelV v2 u2 → R v2 G2 → L2.CE [] P w G t R u2 t2 :=
      fun {σ2 G2 v2 u2} J rel qq => ⟨v2, G2, J.os, J.bare, J.base, J.hok, rel, qq⟩
    cases fl with
    | next =>
      obtain ⟨σ2, G2, J, qq⟩ := out
      exact done (v2 := V.non) (u2 := Value.none) J rfl qq
    | ret u =>
      obtain ⟨v2, σ2, G2, J, rel, qq⟩ := out
      exact done J rel qq
    | brk => exact (show False from out.elim fun _ z => z.elim fun _ z => z.2).elim
    | cont => exact (show False from out.elim fun _ z => z.elim fun _ z => z.2).elim
end

/-! ### the end for such a law -/
section
open PySem.Spec PySem.W PySem.Calls PyProof.Rows
variable {P : Program} {w : World} {K : PySem.W.Frag} {mg mb : Str → Option Value} {f a : Addr} {fd : FuncData} {x : Str} {sp : L2.Sp} {t : Shared} {us : List Value} {ms : List Int}
/-- the heap G tracks the script at most -/
structure Scr (K : PySem.W.Frag) (t : Shared) (a : Addr) (us : List Value) (ms : List Int) (P : Program) (w : World) (G : Hp) : Prop where
  few : L2.Only G
  seq : L2.SqL K G a (ms.map V.int)
  ok : L2.HOk P w G t.heap
  at_ : ∀ b, G b ≠ none → b = a
  off : G a ≠ none → K.lookup a = none
theorem scr_of (frag : K.In t.heap) (obj : t.heap.get? a = some { cls := .type "list", data := .seq us.toArray }) (i : IntsAre us ms) (l : ms.length ≤ sizeLine) : ∃ G, Scr K t a us ms P w G := by
  have rv := L2.vals_ints i
  cases own : K.lookup a with
  | none =>
    refine ⟨fun b => if b = a then some (.frz { cls := .type "list", data := .seq us.toArray } (.lst (ms.map V.int))) else none, ⟨fun b => ?_, .inl (.inr ⟨_, if_pos rfl⟩), fun b o e => ?_, fun b e => ?_, fun _ => own⟩⟩
    · rcases Decidable.em (b = a) with e | e
      · exact .inr ⟨_, _, if_pos e⟩
      · exact .inl (if_neg e)
    · rcases Decidable.em (b = a) with q | q
      · have e2 := (if_pos q).symm.trans e
        cases e2
        subst q
        exact ⟨obj, by rw [List.length_map]; exact l, us, _, rv, obj⟩
      · cases (if_neg q).symm.trans e
    · exact Decidable.byContradiction fun q => e (if_neg q)
  | some o =>
    have e := frag a o own
    rw [obj] at e
    cases e
    exact ⟨fun _ => none, fun _ => .inl rfl, .inr ⟨_, us.toArray, _, own, rfl, rfl, rfl, by rw [List.size_toArray, i.length]; exact l, by simpa using rv⟩, fun _ _ e => (nomatch e), fun _ e => absurd rfl e, fun e => absurd rfl e⟩
theorem top_call (frag : K.In t.heap) (gl : t.heap.Ns mainGlobals mg) (bl : t.heap.Ns builtinsNs mb) (bb : ∀ y : Str, y ≠ "__name__" → mb y = bootBuiltins y) (nolim : t.heap.NoLimit) (gens : t.gens = #[])
    (obj : t.heap.get? a = some { cls := .type "list", data := .seq us.toArray }) (i : IntsAre us ms) (l : ms.length ≤ sizeLine)
    (F : ∀ base : Heap, K.In base → base.Ns mainGlobals mg → TopOk P w K mg base f fd x sp) (bind : ∀ (t : Shared) (z : Value), BindsTo t fd ⟨[z], []⟩ [(x, z)])
    (promise : ∀ G : Hp, L2.SqL K G a (ms.map V.int) → sp [.ref a] G (fun v _ => v = .bl true) fun _ _ _ => False) :
    codeAny (model P w) callerA (.call (.ref f) ⟨[.ref a], []⟩) (fun r t' => r = .ok (.ret (.bool true)) ∧ OldK t.heap t'.heap ∧ t'.os = t.os ∧ AllBare t'.gens) t := by
  obtain ⟨G, S⟩ := scr_of (P := P) (w := w) frag obj i l
  have free : ∀ {b : Addr} {o : Obj}, t.heap.get? b = some o → (b = a → False) → (L2.hidT t.heap G).get? b = some o := fun {b o} e ne => L2.hidT_get e (Decidable.byContradiction fun q => ne (S.at_ b q))
  have ns2 : ∀ {b : Addr} {m : Str → Option Value}, t.heap.Ns b m → (L2.hidT t.heap G).Ns b m := fun {b m} ⟨o, es, ep, e, d, r⟩ => ⟨o, es, ep, free e (fun q => by subst q; rw [obj] at e; cases e; exact (nomatch (show Data.seq us.toArray _ = Data.dict es ep from d))), d, r⟩
  have frag2 : K.In (L2.hidT t.heap G) := fun b o e => by
    rcases Decidable.em (G b = none) with n | n
    · exact L2.hidT_get (frag b o e) n
    · have q := S.at_ b n
      subst q
      rw [S.off n] at e
      cases e
  have mod : L2.Mod K mg (L2.hidT t.heap G) := ⟨frag2, ns2 gl, ⟨mb, ns2 bl, bb⟩, let ⟨mc, n1, n2⟩ := nolim; ⟨mc, ns2 n1, n2⟩⟩
  have start : L2.Env0 P w K mg (L2.hidT t.heap G) callerA [] t G := ⟨rfl, mod, fun _ _ e => L2.of_hidT e, Nat.le_of_eq (L2.hidT_size _ _), trivial, fun _ m => (nomatch m), S.ok, .of_eq gens⟩
  refine codeAny_mono ((F _ frag2 (ns2 gl)).go t G (.ref a) (.ref a) _ _ start (bind t (.ref a)) rfl (promise G S.seq)) fun r t' out => ?_
  match r, out with
  | .error e, out => exact (cx_end out).elim
  | .ok .next, out => exact (show False from out).elim
  | .ok .brk, out => exact (show False from out).elim
  | .ok .cont, out => exact (show False from out).elim
  | .ok (.ret u), out =>
    obtain ⟨v, G', os, bare, un, ok', rel, q⟩ := out
    obtain rfl : v = .bl true := q
    obtain rfl : u = Value.bool true := rel
    refine ⟨rfl, OldK.of_keep fun b o e => ?_, os, bare⟩
    cases n : G b with
    | none => exact un.keep b o e n (fun z => (nomatch z)) (fun z => (nomatch z))
    | some y =>
      rcases S.few b with z | ⟨ob, xs, z⟩
      · rw [n] at z; cases z
      · obtain ⟨e1, _⟩ := S.ok b _ z
        obtain ⟨e2, _⟩ := ok' b _ (un.frzs b ob _ z)
        rw [e] at e1
        cases e1
        exact e2
theorem law_endT {l : PySem.W.OpenLaw} {n : Nat} {q : PySem.Program} {loose : List Str} {XP : (Str → Option Value) → Heap → Prop} {YP : World → Heap → Prop} {d : DefRec} {K : Params → PySem.W.Frag} {F : List D → M D} (hn : l.most = some n) (hn2 : n ≤ sizeLine) (hdf : d.params.defaults = [])
    (hY : ∀ (w : World) (h : Heap), YP w h → (K w.params).In h) (plain : ∀ ns : List Int, ns.length ≤ n → ∃ w', F [.frz (ns.map D.int)] none = .ok (.bl true) w')
    (G : ∀ (w : World) (mg : Str → Option Value) (h : Heap), (K w.params).In h → h.Ns mainGlobals mg → ∃ (cm : Nat → Addr) (f : Addr) (fd : FuncData), mg d.name = some (.ref f) ∧ (∀ (s : Shared) (u : Value), BindsTo s fd ⟨[u], []⟩ [("script", u)]) ∧
      ∀ base : Heap, (K w.params).In base → base.Ns mainGlobals mg → TopOk l.prog w (K w.params) mg base f fd "script" (spX (K w.params) cm 1 F)) :
    PySem.W.WalkO q loose XP YP l.row.toRowW d [] (fun f vs => PySem.call f vs) := by
  refine Att.attach_call hn hdf fun w s0 s1 mg mb fa o pm cd doc a vs ns T Y ho hd hcd hmg hobj hi hl hg => ?_
  obtain ⟨cm, f, fd, e, hb, hF⟩ := G w mg _ (hY w _ Y) T.T.g
  rw [hmg] at e
  cases e
  exact top_call (hY w _ Y) T.T.g T.T.b T.T.builtins T.T.nolimit hg hobj hi (Nat.le_trans hl hn2) hF hb fun H S => sp_end plain H a ns hl S
theorem law_finT {P : Program} {w : World} {K : PySem.W.Frag} {mg : Str → Option Value} {cm : Nat → Addr} {st : Stmt} {F : List D → M D} (hd : ∃ f fd, DefAt K mg "law" st [] f fd)
    (hb : ∀ (kV doc pm : Value) (an : Option Addr) (cdv ct : Value) (us : List Value), us.length = (["script"] : List Str).length → bindArgs (PySem.W.fnOf "law" "law" (L2.defArgs st) (L2.defBody st) (L2.defScope st) .none kV doc pm an cdv ct) ⟨us, []⟩ = pure ((["script"] : List Str).zip us))
    (G : ∀ (base : Heap) (f : Addr) (fd : FuncData), DefAt K mg "law" st [] f fd → TopOk P w K mg base f fd "script" (spX K cm 1 F)) : ∃ (cm : Nat → Addr) (f : Addr) (fd : FuncData), mg "law" = some (.ref f) ∧ (∀ (s : Shared) (u : Value), BindsTo s fd ⟨[u], []⟩ [("script", u)]) ∧
      ∀ base : Heap, K.In base → base.Ns mainGlobals mg → TopOk P w K mg base f fd "script" (spX K cm 1 F) := by
  obtain ⟨f, fd, A⟩ := hd
  exact ⟨cm, f, fd, A.m, fun s u => A.F.bindsA hb s [u] rfl, fun base _ _ => G base f fd A⟩
end
end FL

/-! F19: classes: an object is made, its fields are read. -/
namespace FL
open PySem
open L2 (V Hp HO Cx Inv VK XK TE TT TA TS TI TG PE PT PA PS PSs PI PG Ends WX RelV Vals Rd upd upd_same upd_ne ne_of_none EP TP AP OpR R2 CallR FnOk Room Binds)
/-- the entry of an __init__: the caller's heap, what it owns, the hand; the object, its dict -/
structure MkQ where
  B : Hp
  O0 : NS
  ph0 : Option Addr
  a : Addr
  dx : Addr
  C : Addr
def MkQ.H (q : MkQ) : Hp := upd (upd q.B q.dx (.own q.a)) q.a (.ins q.C q.dx [])
def MkQ.sq (q : MkQ) : Sq := ⟨q.H, fun b => q.O0 b ∨ b = q.a, q.ph0⟩
structure MkQ.Ok (K : PySem.W.Frag) (cm : Nat → Addr) (q : MkQ) : Prop where
  ha : q.B q.a = none
  hd : q.B q.dx = none
  ne : q.dx ≠ q.a
  tr : OTr q.B q.O0 q.ph0
  nph : q.ph0 ≠ some q.a
/-- the prefix of an __init__, then the values of the fields -/
def stepN (b : SF) (es : List EF) (ρ : Env) (w : Wd) : R (List D) := match b ρ w with
  | .nx ρ' w' => match ρ'[0]? with
    | some FL.Slot.slf => evs es ρ' w'
    | _ => .bad
  | .ex c ns xs _ w' => .ex c ns xs w'
  | _ => .bad
def initF (n : Nat) (b : SF) (es : List EF) (ds : List D) : M (List D) := fun w => stepN b es (FL.Slot.slf :: (vals ds ++ List.replicate (n - ds.length - 1) .none)) w
section
variable (K : PySem.W.Frag) (cm : Nat → Addr) (xa : Option (Addr × Nat × Addr)) (q : MkQ) (ns : List Str)
def PostN (Wx : WX) (D : Ends) : R (List FL.D) → Prop
  | .ok xs w' => ∀ σ H' ph' vs, Ext q.ph0 q.B H' → PhS q.B q.ph0 ph' → HandOk K cm H' q.O0 ph' w' → H' q.a = some (.ins q.C q.dx (ns.zip vs)) → ns.length = vs.length → RepL K cm H' (OO q.O0 ph') ph' xs vs → D.nx σ H'
  | .ex c es xs w' => ∀ σ H' ph' dd vs, Ext q.ph0 q.B H' → PhS q.B q.ph0 ph' → HandOk K cm H' q.O0 ph' w' → H' dd = some (.xd (es.zip vs).reverse) → es.length = vs.length → RepL K cm H' (OO q.O0 ph') ph' xs vs → Wx (.ref (cm c)) (some dd) σ H'
  | .bad => False
/-- the stores: the fields n0 stand, the rest es is to come -/
def tSt (Wx : WX) (n0 : List Str) (es : List EF) : TS := fun D σ H => ∃ O1 ρ ph w xs vs, EnvE K cm xa O1 H ph ρ σ ∧ HandOk K cm H O1 ph w ∧ (∀ b, q.O0 b → O1 b) ∧ O1 q.a ∧ q.B q.a = none ∧ Ext q.ph0 q.B H ∧ PhS q.B q.ph0 ph ∧ H q.a = some (.ins q.C q.dx (n0.zip vs)) ∧
  n0.length = vs.length ∧ RepL K cm H (OO O1 ph) ph xs vs ∧ σ[0]? = some (some (.ref q.a)) ∧ PostN K cm q ns Wx D (M.bind (evs es ρ) (fun ys => M.ret (xs ++ ys)) w)
def tPre (Wx : WX) (b : SF) (es : List EF) : TS := fun D σ H => ∃ ρ ph w, StS K cm xa q.sq ρ ph w σ H ∧ PostN K cm q ns Wx D (stepN b es ρ w)
end
section
variable {K : PySem.W.Frag} {cm : Nat → Addr} {q : MkQ} {H H' : Hp} {ph ph' : Option Addr}
theorem MkQ.base (ok : q.Ok K cm) : Ext q.ph0 q.B q.H := fun b o n e => by
  unfold MkQ.H
  rw [upd_ne (ne_of_none e ok.ha), upd_ne (ne_of_none e ok.hd)]; exact e
theorem MkQ.at_ : q.H q.a = some (.ins q.C q.dx []) := upd_same
theorem MkQ.phs (h : PhS q.H q.ph0 ph') : PhS q.B q.ph0 ph' := by
  rcases h with h | ⟨h, p, e, n⟩
  · exact .inl h
  · refine .inr ⟨h, p, e, ?_⟩
    unfold MkQ.H at n
    by_cases z : p = q.a
    · rw [z, upd_same] at n; cases n
    · rw [upd_ne z] at n
      by_cases y : p = q.dx
      · rw [y, upd_same] at n; cases n
      · rwa [upd_ne y] at n
theorem MkQ.ext (ok : q.Ok K cm) (h : Ext q.ph0 q.H H') : Ext q.ph0 q.B H' := fun b o n e => h b o n (MkQ.base ok b o n e)
theorem bind_at {α β : Type} {m : M α} {f : α → M β} {w w1 : Wd} {a : α} (h : m w = .ok a w1) : M.bind m f w = f a w1 := by
  unfold M.bind
  rw [h]
theorem zip_snoc {α β : Type} : ∀ (a : List α) (b : List β) (x : α) (y : β), a.length = b.length → (a ++ [x]).zip (b ++ [y]) = a.zip b ++ [(x, y)]
  | [], [], _, _, _ => rfl
  | a :: as, b :: bs, x, y, h => by
    simp only [List.cons_append, List.zip_cons_cons]
    rw [zip_snoc as bs x y (by simpa using h)]
  | [], _ :: _, _, _, h => by simp at h
  | _ :: _, [], _, _, h => by simp at h
theorem putF_new {f : Str} {v : V} : ∀ (n0 : List Str) (vs : List V), f ∉ n0 → L2.putF f v (n0.zip vs) = n0.zip vs ++ [(f, v)]
  | [], _, _ => rfl
  | _ :: _, [], _ => rfl
  | n :: n0, x :: vs, h => by
    simp only [List.zip_cons_cons, L2.putF]
    rw [if_neg (fun z => h (by rw [z]; exact List.mem_cons_self ..)), putF_new n0 vs fun z => h (List.mem_cons_of_mem _ z)]
    rfl
end
section
variable {X : Cx} {c : Cfg} {q : MkQ} {ns : List Str} {pos : Pos} {e : Expr} {fe : EF} {es : List EF} {st : Stmt} {rest : List Stmt} {s b : SF}
theorem pin_nil (Wx : WX) : PSs X [] (tSt X.K c.cm c.xa q ns Wx ns []) := PSs.to L2.pss_nil fun D σ H ⟨O1, ρ, ph, w, xs, vs, env, hand, sub, own, hB, base, phs, obj, len, rep, sl, post⟩ => by
  have post : PostN X.K c.cm q ns Wx D (.ok (xs ++ []) w) := post
  rw [List.append_nil] at post
  exact post σ H ph vs base phs (hand.less sub) obj len (rep.keep (Keep.less (OO.mono sub)) (fun _ e => e) xs vs)
theorem pin_store {n0 : List Str} {f slf : Str} {p p' : Pos} (hN : X.N[0]? = some slf) (hv : L2.Vis X.env.scope slf) (hd1 : (slf == ("__debug__" : Str)) = false) (hd2 : (slf == ("__classdict__" : Str)) = false) (cl : L2.Cls X.K q.C) (na : L2.NoAttr X.K q.C f) (hf : f ∉ n0) (hl : n0.length < 1000)
    (he : PX X c e fe) (hs : swapsWith e (some (.Attribute (.Name slf p) f p')) pos.line X.env = pure false) (h2 : PSs X rest (tSt X.K c.cm c.xa q ns c.Wx (n0 ++ [f]) es)) :
    PSs X (.Assign [.Attribute (.Name slf p) f p'] e pos :: rest) (tSt X.K c.cm c.xa q ns c.Wx n0 (fe :: es)) := by
  refine PSs.to (L2.pss_cons (L2.ps_fld (L2.pe_var (i := 0) hN hv hd1 hd2) he hs) h2) fun D σ H ⟨O1, ρ, ph, w, xs, vs, env, hand, sub, own, hB, base, phs, obj, len, rep, sl, post⟩ => ?_
  refine ⟨O1, ρ, ph, w, env, hand, ?_⟩
  have post : PostN X.K c.cm q ns c.Wx D (M.bind (M.bind (fe ρ) fun x => M.bind (evs es ρ) fun ys => M.ret (x :: ys)) (fun ys => M.ret (xs ++ ys)) w) := post
  have nph : ph ≠ some q.a := (env.tr q.a own).1
  cases ev : fe ρ w with
  | bad =>
    simp only [M.bind, ev] at post
    exact post
  | ex k es2 zs w1 =>
    simp only [M.bind, ev] at post
    intro dd H1 ph1 vs1 x sphs hk hd l r
    exact post σ H1 ph1 dd vs1 (base.trans phs x) (PhS.trans base phs sphs) (hk.less sub) hd l (r.keep (Keep.less (OO.mono sub)) (fun _ e => e) zs vs1)
  | ok d w1 =>
    intro v H1 ph1 x sphs hk r
    have obj1 : H1 q.a = some (.ins q.C q.dx (n0.zip vs)) := x _ _ nph obj
    have env1 := env.ext x sphs
    have nph1 : ph1 ≠ some q.a := (env1.tr q.a own).1
    have rep1 := rep.keep (Ext.keep x sphs) sphs.m xs vs
    refine ⟨.ref q.a, sl, q.a, q.C, q.dx, n0.zip vs, rfl, obj1, cl, na, by rw [List.length_zip]; omega, ?_⟩
    rw [putF_new n0 vs hf, ← zip_snoc n0 vs f v len]
    have kk : Keep H1 (OO O1 ph1) (upd H1 q.a (.ins q.C q.dx ((n0 ++ [f]).zip (vs ++ [v])))) (OO O1 ph1) := ⟨fun b o n e => by rw [upd_ne (fun z => n (.inl (by rw [z]; exact own)))]; exact e, fun b o _ n => n⟩
    have ne_q : ∀ (b : Addr) (o : HO), q.B b = some o → b ≠ q.a := fun b o e z => by rw [z, hB] at e; cases e
    have base1 : Ext q.ph0 q.B H1 := base.trans phs x
    refine ⟨O1, ρ, ph1, w1, xs ++ [d], vs ++ [v], ⟨env1.len, fun i t y e1 e2 => (env1.at_ i t y e1 e2).keep kk (fun _ e => e) fun ds p ht hy o => ⟨o, fun u z => ?_⟩, fun b o => ?_⟩, hk.keep kk fun p e u z => ?_, sub, own, hB, fun b o n e => ?_, PhS.trans base phs sphs, upd_same, ?_, ?_, sl, ?_⟩
    · obtain ⟨p2, vs2, y1, _, y2, _⟩ := env1.ownd (e1.trans (by rw [ht]))
      rw [upd_ne (fun z2 => ?_)]
      · exact z
      · rw [e2, hy] at y1
        cases y1
        rw [z2, obj1] at y2
        cases y2
    · obtain ⟨y, u, z, k⟩ := env1.tr b o
      refine ⟨y, ?_⟩
      by_cases z2 : b = q.a
      · rw [z2]; exact ⟨_, upd_same, .inr ⟨_, _, _, rfl⟩⟩
      · exact ⟨u, by rw [upd_ne z2]; exact z, k⟩
    · rw [upd_ne (fun z2 => nph1 (by rw [← z2]; exact e))]; exact z
    · rw [upd_ne (ne_q b o e)]; exact base1 b o n e
    · rw [List.length_append, List.length_append, len]; rfl
    · exact (RepL.append rep1 (RepL.one r)).keep kk (fun _ e => e) _ _
    · have e3 : M.bind (M.bind (fe ρ) fun x => M.bind (evs es ρ) fun ys => M.ret (x :: ys)) (fun ys => M.ret (xs ++ ys)) w = M.bind (evs es ρ) (fun ys => M.ret (xs ++ [d] ++ ys)) w1 := by
        simp only [bind_bind, ret_bind, List.append_assoc, List.cons_append, List.nil_append]
        exact bind_at ev
      rw [e3] at post
      exact post
theorem pin_end (hq : q.Ok X.K c.cm) (hxa : c.xa = some (q.a, 0, q.dx)) (h : PSs X rest (tSt X.K c.cm c.xa q ns c.Wx [] es)) : PSs X rest (tPre X.K c.cm c.xa q ns c.Wx sNext es) := by
  refine PSs.to h fun D σ H ⟨ρ, ph, w, S, post⟩ => ?_
  have post : PostN X.K c.cm q ns c.Wx D (match ρ[0]? with | some FL.Slot.slf => evs es ρ w | _ => .bad) := post
  cases e0 : ρ[0]? with
  | none => rw [e0] at post; exact (show False from post).elim
  | some t =>
    rw [e0] at post
    cases t with
    | slf =>
      have hi : 0 < σ.length := by rw [S.env.len]; exact (List.getElem?_eq_some_iff.mp e0).1
      obtain ⟨a, k, dd, y1, y2⟩ := S.env.at_ 0 _ σ[0] e0 (List.getElem?_eq_getElem hi)
      rw [hxa] at y2
      cases y2
      have oa : OwnS q.sq.O0 ρ σ q.a := .inl (.inr rfl)
      refine ⟨_, ρ, ph, w, [], [], S.env, S.hand, fun b o => .inl (.inl o), oa, hq.ha, MkQ.ext hq S.base, MkQ.phs S.phs, S.base _ _ hq.nph MkQ.at_, rfl, RepL.nil, by rw [List.getElem?_eq_getElem hi, y1], ?_⟩
      have e4 : M.bind (evs es ρ) (fun ys => M.ret ([] ++ ys)) = evs es ρ := by
        have : (fun ys : List FL.D => M.ret ([] ++ ys)) = M.ret := by funext ys; rw [List.nil_append]
        rw [this, bind_ret]
      rw [e4]
      exact post
    | none => exact (show False from post).elim
    | val d => exact (show False from post).elim
    | own xs => exact (show False from post).elim
    | nest xs => exact (show False from post).elim
    | exc k n xs => exact (show False from post).elim
theorem stepN_seq (s b : SF) (es : List EF) (ρ : Env) (w : Wd) : stepN (sSeq s b) es ρ w = match s ρ w with | .nx ρ' w' => stepN b es ρ' w' | .ex c ns xs _ w' => .ex c ns xs w' | _ => .bad := by
  unfold stepN sSeq
  cases s ρ w <;> rfl
theorem pre_ex {W : WX} {D : Ends} (hq : q.Ok X.K c.cm) {k : Nat} {es2 : List Str} {xs : List FL.D} {ρ' : Env} {w' : Wd} {σ' : St} {H' : Hp} {ph' : Option Addr} {dd : Addr} {vs : List V} (post : PostN X.K c.cm q ns W D (.ex k es2 xs w')) (S : StS X.K c.cm c.xa q.sq ρ' ph' w' σ' H') (hd : H' dd = some (.xd (es2.zip vs).reverse)) (l : es2.length = vs.length) (r : RepL X.K c.cm H' (NN q.sq ρ' σ' ph') ph' xs vs) : W (.ref (c.cm k)) (some dd) σ' H' :=
  post σ' H' ph' dd vs (MkQ.ext hq S.base) (MkQ.phs S.phs) (S.hand.less fun b o => .inl (.inl o)) hd l (r.keep (Keep.less (OO.mono fun b o => .inl (.inl o))) (fun _ e => e) xs vs)
theorem pin_cons (hq : q.Ok X.K c.cm) (h1 : PSX X c q.sq st s) (h2 : PSs X rest (tPre X.K c.cm c.xa q ns c.Wx b es)) : PSs X (st :: rest) (tPre X.K c.cm c.xa q ns c.Wx (sSeq s b) es) := by
  refine PSs.to (L2.pss_cons h1 h2) fun D σ H ⟨ρ, ph, w, S, post⟩ => ⟨ρ, ph, w, S, ?_⟩
  rw [stepN_seq] at post
  cases e : s ρ w with
  | nx ρ' w' => rw [e] at post; exact fun σ' H' ph' S' _ => ⟨ρ', ph', w', S', post⟩
  | ex k n xs ρ' w' => rw [e] at post; exact fun σ' H' ph' dd vs S' _ hd l r => pre_ex hq post S' hd l r
  | rt d w' => rw [e] at post; exact (show False from post).elim
  | bk ρ' w' => rw [e] at post; exact (show False from post).elim
  | ct ρ' w' => rw [e] at post; exact (show False from post).elim
  | bad => rw [e] at post; exact (show False from post).elim
end
end FL

/-! F20: == of lists and tuples whose items are asked one by one, the state changing on the way. -/
namespace FLQ
open PySem PySem.SeqAt
open AutoSeq1 (wpAny_loadPart')
open MeetsSeq MeetsSeq2 MeetsSeq3 SeqRoads2
section
variable {prog : Program} {w : World} {A : Around} {R : Result → Shared → Prop}
/-- two lists of m items each -/
structure Two (s : Shared) (l b : Addr) (m : Nat) (xs ys : Array Value) : Prop where
  one : ∃ n, s.heap.get? l = some { cls := .type "list", data := .seq xs n }
  two : ∃ n, s.heap.get? b = some { cls := .type "list", data := .seq ys n }
  sx : xs.size = m
  sy : ys.size = m
/-- turn by turn: J i at the i-th pair; an unlike pair ends it -/
def Turns (prog : Program) (w : World) (A : Around) (R : Result → Shared → Prop) (l b : Addr) (m : Nat) (J : Nat → Shared → Prop) : Prop :=
  ∀ i t, J i t → ∃ xs ys, Two t l b m xs ys ∧ ∀ (k1 : i < xs.size) (k2 : i < ys.size),
    wpAny (model prog w) A.in1 (eqBool xs[i] ys[i]) (fun r t' => (r = true ∧ J (i + 1) t') ∨ (r = false ∧ (∃ xs' ys', Two t' l b m xs' ys') ∧ R (.ok (.ret (.bool false))) t')) (fun e t' => R (.error e) t') t
theorem turns_loop {l b : Addr} {m : Nat} {J : Nat → Shared → Prop} (T : Turns prog w A R l b m J) (fin : ∀ t, J m t → R (.ok (.ret (.bool true))) t) :
    ∀ (left i : Nat), m - i = left → i ≤ m → ∀ t, J i t → wpAny (model prog w) A.in1 (Builtin.«list.__eq__.loop» ⟨[.ref l, .ref b, rawInt i, rawInt 2], []⟩) (GQ.FinOf prog w A R) (fun e t' => R (.error e) t') t
  | 0, i, hk, hi, t, j => by
    obtain ⟨xs, ys, ⟨⟨n1, e1⟩, ⟨n2, e2⟩, sx, sy⟩, _⟩ := T i t j
    have im : i = m := by omega
    have done : R (.ok (.ret (.bool true))) t := fin t (im ▸ j)
    obtain ⟨hp, g, d, tk, os⟩ := t
    wp_walk using wpAny_loadPart' e1, wpAny_loadPart' e2
    have o1 : xs[((i : Nat) : Int).toNat]? = none := by simp; omega
    have o2 : ys[((i : Nat) : Int).toNat]? = none := by simp; omega
    rw [o1, o2]
    wp_walk using wpAny_loadPart' e1, wpAny_loadPart' e2
    show R (.ok (.ret (.bool (xs.size == ys.size)))) _
    rw [sx, sy]
    simpa using done
  | left + 1, i, hk, hi, t, j => by
    obtain ⟨xs, ys, ⟨⟨n1, e1⟩, ⟨n2, e2⟩, sx, sy⟩, turn⟩ := T i t j
    have k1 : i < xs.size := by omega
    have k2 : i < ys.size := by omega
    have ask := turn k1 k2
    obtain ⟨hp, g, d, tk, os⟩ := t
    wp_walk using wpAny_loadPart' e1, wpAny_loadPart' e2
    have o1 : xs[((i : Nat) : Int).toNat]? = some xs[i] := by simp [k1]
    have o2 : ys[((i : Nat) : Int).toNat]? = some ys[i] := by simp [k2]
    have next : ((i : Int) + 1) = ((i + 1 : Nat) : Int) := by omega
    rw [o1, o2]
    refine wpAny_bind (wpAny_mono ask (fun r t2 z => ?_) fun _ _ x => x)
    rcases z with ⟨hr, z⟩ | ⟨hr, ⟨xs2, ys2, ⟨⟨m1, f1⟩, ⟨m2, f2⟩, zx, zy⟩⟩, z⟩
    · subst hr
      have rest := turns_loop T fin left (i + 1) (by omega) (by omega) t2 z
      obtain ⟨hp2, g2, d2, tk2, os2⟩ := t2
      wp_walk
      rw [next]
      exact ⟨plainId_quiet plain_eq_loop _, codeAny_builtin entry_eq_loop (by rw [Around.under_plainId plain_eq_loop _]; exact rest)⟩
    · subst hr
      have p1 : xs2[((i : Nat) : Int).toNat]? = some xs2[i] := by simp [show i < xs2.size by omega]
      have p2 : ys2[((i : Nat) : Int).toNat]? = some ys2[i] := by simp [show i < ys2.size by omega]
      obtain ⟨hp2, g2, d2, tk2, os2⟩ := t2
      wp_walk using wpAny_loadPart' f1, wpAny_loadPart' f2
      rw [p1, p2]
      wp_walk
      simpa using z
theorem lists_asked {l b : Addr} {m : Nat} {J : Nat → Shared → Prop} (T : Turns prog w A R l b m J) (fin : ∀ t, J m t → R (.ok (.ret (.bool true))) t) {t : Shared} (j : J 0 t) :
    wpAny (model prog w) A.in1 (Builtin.«list.__eq__» ⟨[.ref l, .ref b], []⟩) (GQ.FinOf prog w A R) (fun e t' => R (.error e) t') t := by
  obtain ⟨xs, ys, ⟨⟨n1, e1⟩, ⟨n2, e2⟩, sx, sy⟩, _⟩ := T 0 t j
  have go := turns_loop T fin _ 0 rfl (Nat.zero_le _) t j
  obtain ⟨hp, g, d, tk, os⟩ := t
  have f3 := AutoSeq1.sub_list_list
  have same : ¬ (xs.size != ys.size) = true := by simp [sx, sy]
  wp_walk using wpAny_loadPart' e1, wpAny_loadPart' e2
  exact ⟨plainId_quiet plain_eq_loop _, codeAny_builtin entry_eq_loop (by rw [Around.under_plainId plain_eq_loop _]; exact go)⟩
/-- the same of two tuples, of whatever lengths -/
theorem tuples_asked (l b : Addr) (xs ys : Array Value) (n1 n2 : Nat) (dd dd2 : Option Addr) (sl sl2 : Array (Option Value)) (J : Nat → Shared → Prop)
    (turn : ∀ i (k1 : i < xs.size) (k2 : i < ys.size) t, J i t → wpAny (model prog w) A.in1 (eqBool xs[i] ys[i]) (fun r t' => (r = true ∧ J (i + 1) t') ∨ (r = false ∧ R (.ok (.ret (.bool false))) t')) (fun e t' => R (.error e) t') t)
    (fin : ∀ t, J (min xs.size ys.size) t → R (.ok (.ret (.bool (xs.size == ys.size)))) t) {t : Shared} (e1 : t.heap.get? l = some { cls := .type "tuple", dict := dd, data := .seq xs n1, slots := sl }) (e2 : t.heap.get? b = some { cls := .type "tuple", dict := dd2, data := .seq ys n2, slots := sl2 }) (j : J 0 t) :
    wpAny (model prog w) A.in1 (Builtin.«tuple.__eq__» ⟨[.ref l, .ref b], []⟩) (GQ.FinOf prog w A R) (fun e t' => R (.error e) t') t := by
  have f2 := AutoSeq1.sub_tuple_tuple
  have pairs : (xs.toList.zip ys.toList).length = min xs.size ys.size := by simp
  have j0 := j
  obtain ⟨hp, g, d, tk, os⟩ := t
  wp_walk using wpAny_loadPart' e1, wpAny_loadPart' e2, wpAny_forIn_list _ (fun rest b t' => b.1 = none ∧ ∃ i, rest = (xs.toList.zip ys.toList).drop i ∧ i ≤ min xs.size ys.size ∧ J i t') _
  case turn =>
    rintro ⟨y, x⟩ rest b t' ⟨hb', i, hz, hi, hJ⟩
    have lt : i < (xs.toList.zip ys.toList).length := by
      rcases Nat.lt_or_ge i (xs.toList.zip ys.toList).length with q | q
      · exact q
      · rw [List.drop_of_length_le q] at hz; cases hz
    have mn : i < min xs.size ys.size := pairs ▸ lt
    have k1 : i < xs.size := by omega
    have k2 : i < ys.size := by omega
    rw [List.drop_eq_getElem_cons lt] at hz
    injection hz with hyx tail
    have ey : y = xs[i] := by have := congrArg Prod.fst hyx; simpa using this
    have ex : x = ys[i] := by have := congrArg Prod.snd hyx; simpa using this
    subst ey ex
    refine wpAny_bind (wpAny_mono (turn i k1 k2 t' hJ) (fun r t2 z => ?_) fun _ _ x => x)
    rcases z with ⟨hr, z⟩ | ⟨hr, z⟩
    · subst hr
      wp_walk
      exact ⟨rfl, i + 1, tail, mn, z⟩
    · subst hr
      wp_walk
      simpa using z
  case fin =>
    rintro ⟨b1, b2⟩ t' ⟨hb', i, hz, hi, hJ⟩
    simp only at hb'
    subst hb'
    have ge : min xs.size ys.size ≤ i := by
      rcases Nat.lt_or_ge i (xs.toList.zip ys.toList).length with q | q
      · rw [List.drop_eq_getElem_cons q] at hz; cases hz
      · exact pairs ▸ q
    have im : i = min xs.size ys.size := by omega
    have done := fin t' (im ▸ hJ)
    wp_walk
    simpa [Builtin.Tuple.tupleCompareSizes] using done
  case h =>
    exact ⟨rfl, 0, rfl, Nat.zero_le _, j0⟩
end
section
variable {prog : Program} {w : World} {A : Around} {E : Value → Shared → Prop} {t : Shared}
theorem rc_lists {l b : Addr} {m : Nat} {Q : Value → Shared → Prop} (hu : A.units < cLine) (J : Nat → Shared → Prop) (T : Turns prog w A (wants (fun v t' => v ≠ .notImplemented ∧ Q v t') E) l b m J) (fin : ∀ t, J m t → Q (.bool true) t) (j : J 0 t) :
    wpAny (model prog w) A (richCompare .Eq (.ref l) (.ref b)) Q E t := by
  obtain ⟨xs, ys, ⟨⟨n1, e1⟩, ⟨n2, e2⟩, _, _⟩, _⟩ := T 0 t j
  refine wpAny_richCompare_same_room (op := .Eq) ⟨_, e1, rfl⟩ ⟨_, e2, rfl⟩ F.slot_list_eq (GQ.call_here F.slot_list_eq ⟨_, e1, rfl⟩ F.entry_list_eq (F.args_list_eq_2 _ _) ?_) hu
  exact lists_asked T (fun t' q => ⟨(fun x => nomatch x), fin t' q⟩) j
theorem rc_tuples {l b : Addr} {xs ys : Array Value} {Q : Value → Shared → Prop} (hu : A.units < cLine) (J : Nat → Shared → Prop) (hl : t.heap.IsTuple l xs) (hb : t.heap.IsTuple b ys)
    (turn : ∀ i (k1 : i < xs.size) (k2 : i < ys.size) t, J i t → wpAny (model prog w) A.in1 (eqBool xs[i] ys[i]) (fun r t' => (r = true ∧ J (i + 1) t') ∨ (r = false ∧ Q (.bool false) t')) E t)
    (fin : ∀ t, J (min xs.size ys.size) t → Q (.bool (xs.size == ys.size)) t) (j : J 0 t) : wpAny (model prog w) A (richCompare .Eq (.ref l) (.ref b)) Q E t := by
  obtain ⟨⟨cls, dd, data, sl⟩, ho, hc, n, hd⟩ := id hl
  obtain ⟨⟨cls2, dd2, data2, sl2⟩, ho2, hc2, n2, hd2⟩ := id hb
  simp only at hc hd hc2 hd2
  subst hc hd hc2 hd2
  refine wpAny_richCompare_same_room (op := .Eq) ⟨_, ho, rfl⟩ ⟨_, ho2, rfl⟩ F.slot_tuple_eq (GQ.call_here F.slot_tuple_eq ⟨_, ho, rfl⟩ F.entry_tuple_eq (F.args_tuple_eq_2 _ _) ?_) hu
  refine tuples_asked (R := wants (fun v t' => v ≠ .notImplemented ∧ Q v t') E) l b xs ys n n2 dd dd2 sl sl2 J (fun i k1 k2 t' q => ?_) (fun t' q => ⟨(fun x => nomatch x), fin t' q⟩) ho ho2 j
  refine wpAny_mono (turn i k1 k2 t' q) (fun r t2 z => ?_) fun _ _ x => x
  rcases z with z | ⟨z1, z2⟩
  · exact .inl z
  · exact .inr ⟨z1, (fun x => nomatch x), z2⟩
end
end FLQ

/-! F21: != of lists and tuples whose items are asked one by one, the state changing on the way. -/
namespace FLQ
open PySem PySem.SeqAt
open AutoSeq1 (wpAny_loadPart')
open MeetsSeq MeetsSeq2 MeetsSeq3 SeqRoads2
section
variable {prog : Program} {w : World} {A : Around} {R : Result → Shared → Prop}
/-- turn by turn: J i at the i-th pair; an unlike pair ends it -/
def TurnsN (prog : Program) (w : World) (A : Around) (R : Result → Shared → Prop) (l b : Addr) (m : Nat) (J : Nat → Shared → Prop) : Prop :=
  ∀ i t, J i t → ∃ xs ys, Two t l b m xs ys ∧ ∀ (k1 : i < xs.size) (k2 : i < ys.size),
    wpAny (model prog w) A.in1 (eqBool xs[i] ys[i]) (fun r t' => (r = true ∧ J (i + 1) t') ∨ (r = false ∧ (∃ xs' ys', Two t' l b m xs' ys') ∧ R (.ok (.ret (.bool true))) t')) (fun e t' => R (.error e) t') t
theorem turns_loopN {l b : Addr} {m : Nat} {J : Nat → Shared → Prop} (T : TurnsN prog w A R l b m J) (fin : ∀ t, J m t → R (.ok (.ret (.bool false))) t) :
    ∀ (left i : Nat), m - i = left → i ≤ m → ∀ t, J i t → wpAny (model prog w) A.in1 (Builtin.«list.__eq__.loop» ⟨[.ref l, .ref b, rawInt i, rawInt 3], []⟩) (GQ.FinOf prog w A R) (fun e t' => R (.error e) t') t
  | 0, i, hk, hi, t, j => by
    obtain ⟨xs, ys, ⟨⟨n1, e1⟩, ⟨n2, e2⟩, sx, sy⟩, _⟩ := T i t j
    have im : i = m := by omega
    have done : R (.ok (.ret (.bool false))) t := fin t (im ▸ j)
    obtain ⟨hp, g, d, tk, os⟩ := t
    wp_walk using wpAny_loadPart' e1, wpAny_loadPart' e2
    have o1 : xs[((i : Nat) : Int).toNat]? = none := by simp; omega
    have o2 : ys[((i : Nat) : Int).toNat]? = none := by simp; omega
    rw [o1, o2]
    wp_walk using wpAny_loadPart' e1, wpAny_loadPart' e2
    show R (.ok (.ret (.bool (xs.size != ys.size)))) _
    rw [sx, sy]
    simpa using done
  | left + 1, i, hk, hi, t, j => by
    obtain ⟨xs, ys, ⟨⟨n1, e1⟩, ⟨n2, e2⟩, sx, sy⟩, turn⟩ := T i t j
    have k1 : i < xs.size := by omega
    have k2 : i < ys.size := by omega
    have ask := turn k1 k2
    obtain ⟨hp, g, d, tk, os⟩ := t
    wp_walk using wpAny_loadPart' e1, wpAny_loadPart' e2
    have o1 : xs[((i : Nat) : Int).toNat]? = some xs[i] := by simp [k1]
    have o2 : ys[((i : Nat) : Int).toNat]? = some ys[i] := by simp [k2]
    have next : ((i : Int) + 1) = ((i + 1 : Nat) : Int) := by omega
    rw [o1, o2]
    refine wpAny_bind (wpAny_mono ask (fun r t2 z => ?_) fun _ _ x => x)
    rcases z with ⟨hr, z⟩ | ⟨hr, ⟨xs2, ys2, ⟨⟨m1, f1⟩, ⟨m2, f2⟩, zx, zy⟩⟩, z⟩
    · subst hr
      have rest := turns_loopN T fin left (i + 1) (by omega) (by omega) t2 z
      obtain ⟨hp2, g2, d2, tk2, os2⟩ := t2
      wp_walk
      rw [next]
      exact ⟨plainId_quiet plain_eq_loop _, codeAny_builtin entry_eq_loop (by rw [Around.under_plainId plain_eq_loop _]; exact rest)⟩
    · subst hr
      have p1 : xs2[((i : Nat) : Int).toNat]? = some xs2[i] := by simp [show i < xs2.size by omega]
      have p2 : ys2[((i : Nat) : Int).toNat]? = some ys2[i] := by simp [show i < ys2.size by omega]
      obtain ⟨hp2, g2, d2, tk2, os2⟩ := t2
      wp_walk using wpAny_loadPart' f1, wpAny_loadPart' f2
      rw [p1, p2]
      wp_walk
      simpa using z
theorem lists_askedN {l b : Addr} {m : Nat} {J : Nat → Shared → Prop} (T : TurnsN prog w A R l b m J) (fin : ∀ t, J m t → R (.ok (.ret (.bool false))) t) {t : Shared} (j : J 0 t) :
    wpAny (model prog w) A.in1 (Builtin.«list.__ne__» ⟨[.ref l, .ref b], []⟩) (GQ.FinOf prog w A R) (fun e t' => R (.error e) t') t := by
  obtain ⟨xs, ys, ⟨⟨n1, e1⟩, ⟨n2, e2⟩, sx, sy⟩, _⟩ := T 0 t j
  have go := turns_loopN T fin _ 0 rfl (Nat.zero_le _) t j
  obtain ⟨hp, g, d, tk, os⟩ := t
  have f3 := AutoSeq1.sub_list_list
  have same : ¬ (xs.size != ys.size) = true := by simp [sx, sy]
  wp_walk using wpAny_loadPart' e1, wpAny_loadPart' e2
  exact ⟨plainId_quiet plain_eq_loop _, codeAny_builtin entry_eq_loop (by rw [Around.under_plainId plain_eq_loop _]; exact go)⟩
/-- the same of two tuples, of whatever lengths -/
theorem tuples_askedN (l b : Addr) (xs ys : Array Value) (n1 n2 : Nat) (dd dd2 : Option Addr) (sl sl2 : Array (Option Value)) (J : Nat → Shared → Prop)
    (turn : ∀ i (k1 : i < xs.size) (k2 : i < ys.size) t, J i t → wpAny (model prog w) A.in1 (eqBool xs[i] ys[i]) (fun r t' => (r = true ∧ J (i + 1) t') ∨ (r = false ∧ R (.ok (.ret (.bool true))) t')) (fun e t' => R (.error e) t') t)
    (fin : ∀ t, J (min xs.size ys.size) t → R (.ok (.ret (.bool (xs.size != ys.size)))) t) {t : Shared} (e1 : t.heap.get? l = some { cls := .type "tuple", dict := dd, data := .seq xs n1, slots := sl }) (e2 : t.heap.get? b = some { cls := .type "tuple", dict := dd2, data := .seq ys n2, slots := sl2 }) (j : J 0 t) :
    wpAny (model prog w) A.in1 (Builtin.«tuple.__ne__» ⟨[.ref l, .ref b], []⟩) (GQ.FinOf prog w A R) (fun e t' => R (.error e) t') t := by
  have f2 := AutoSeq1.sub_tuple_tuple
  have pairs : (xs.toList.zip ys.toList).length = min xs.size ys.size := by simp
  have j0 := j
  obtain ⟨hp, g, d, tk, os⟩ := t
  wp_walk using wpAny_loadPart' e1, wpAny_loadPart' e2, wpAny_forIn_list _ (fun rest b t' => b.1 = none ∧ ∃ i, rest = (xs.toList.zip ys.toList).drop i ∧ i ≤ min xs.size ys.size ∧ J i t') _
  case turn =>
    rintro ⟨y, x⟩ rest b t' ⟨hb', i, hz, hi, hJ⟩
    have lt : i < (xs.toList.zip ys.toList).length := by
      rcases Nat.lt_or_ge i (xs.toList.zip ys.toList).length with q | q
      · exact q
      · rw [List.drop_of_length_le q] at hz; cases hz
    have mn : i < min xs.size ys.size := pairs ▸ lt
    have k1 : i < xs.size := by omega
    have k2 : i < ys.size := by omega
    rw [List.drop_eq_getElem_cons lt] at hz
    injection hz with hyx tail
    have ey : y = xs[i] := by have := congrArg Prod.fst hyx; simpa using this
    have ex : x = ys[i] := by have := congrArg Prod.snd hyx; simpa using this
    subst ey ex
    refine wpAny_bind (wpAny_mono (turn i k1 k2 t' hJ) (fun r t2 z => ?_) fun _ _ x => x)
    rcases z with ⟨hr, z⟩ | ⟨hr, z⟩
    · subst hr
      wp_walk
      exact ⟨rfl, i + 1, tail, mn, z⟩
    · subst hr
      wp_walk
      simpa using z
  case fin =>
    rintro ⟨b1, b2⟩ t' ⟨hb', i, hz, hi, hJ⟩
    simp only at hb'
    subst hb'
    have ge : min xs.size ys.size ≤ i := by
      rcases Nat.lt_or_ge i (xs.toList.zip ys.toList).length with q | q
      · rw [List.drop_eq_getElem_cons q] at hz; cases hz
      · exact pairs ▸ q
    have im : i = min xs.size ys.size := by omega
    have done := fin t' (im ▸ hJ)
    wp_walk
    simpa [Builtin.Tuple.tupleCompareSizes] using done
  case h =>
    exact ⟨rfl, 0, rfl, Nat.zero_le _, j0⟩
end
section
variable {prog : Program} {w : World} {A : Around} {E : Value → Shared → Prop} {t : Shared}
theorem rc_listsN {l b : Addr} {m : Nat} {Q : Value → Shared → Prop} (hu : A.units < cLine) (J : Nat → Shared → Prop) (T : TurnsN prog w A (wants (fun v t' => v ≠ .notImplemented ∧ Q v t') E) l b m J) (fin : ∀ t, J m t → Q (.bool false) t) (j : J 0 t) :
    wpAny (model prog w) A (richCompare .NotEq (.ref l) (.ref b)) Q E t := by
  obtain ⟨xs, ys, ⟨⟨n1, e1⟩, ⟨n2, e2⟩, _, _⟩, _⟩ := T 0 t j
  refine wpAny_richCompare_same_room (op := .NotEq) ⟨_, e1, rfl⟩ ⟨_, e2, rfl⟩ F.slot_list_ne (GQ.call_here F.slot_list_ne ⟨_, e1, rfl⟩ F.entry_list_ne (F.args_list_ne_2 _ _) ?_) hu
  exact lists_askedN T (fun t' q => ⟨(fun x => nomatch x), fin t' q⟩) j
theorem rc_tuplesN {l b : Addr} {xs ys : Array Value} {Q : Value → Shared → Prop} (hu : A.units < cLine) (J : Nat → Shared → Prop) (hl : t.heap.IsTuple l xs) (hb : t.heap.IsTuple b ys)
    (turn : ∀ i (k1 : i < xs.size) (k2 : i < ys.size) t, J i t → wpAny (model prog w) A.in1 (eqBool xs[i] ys[i]) (fun r t' => (r = true ∧ J (i + 1) t') ∨ (r = false ∧ Q (.bool true) t')) E t)
    (fin : ∀ t, J (min xs.size ys.size) t → Q (.bool (xs.size != ys.size)) t) (j : J 0 t) : wpAny (model prog w) A (richCompare .NotEq (.ref l) (.ref b)) Q E t := by
  obtain ⟨⟨cls, dd, data, sl⟩, ho, hc, n, hd⟩ := id hl
  obtain ⟨⟨cls2, dd2, data2, sl2⟩, ho2, hc2, n2, hd2⟩ := id hb
  simp only at hc hd hc2 hd2
  subst hc hd hc2 hd2
  refine wpAny_richCompare_same_room (op := .NotEq) ⟨_, ho, rfl⟩ ⟨_, ho2, rfl⟩ F.slot_tuple_ne (GQ.call_here F.slot_tuple_ne ⟨_, ho, rfl⟩ F.entry_tuple_ne (F.args_tuple_ne_2 _ _) ?_) hu
  refine tuples_askedN (R := wants (fun v t' => v ≠ .notImplemented ∧ Q v t') E) l b xs ys n n2 dd dd2 sl sl2 J (fun i k1 k2 t' q => ?_) (fun t' q => ⟨(fun x => nomatch x), fin t' q⟩) ho ho2 j
  refine wpAny_mono (turn i k1 k2 t' q) (fun r t2 z => ?_) fun _ _ x => x
  rcases z with z | ⟨z1, z2⟩
  · exact .inl z
  · exact .inr ⟨z1, (fun x => nomatch x), z2⟩
end
end FLQ

/-! F22: == and != of data that may hold objects with an own __eq__. -/
namespace FL
open PySem
open L2 (V Hp HO Cx Inv VK XK TE TT TA TS TI TG PE PT PA PS PSs PI PG Ends WX RelV Vals Rd upd upd_same upd_ne ne_of_none EP TP AP OpR R2 CallR FnOk Room Binds)
/-- the own __eq__ of each class, by its number -/
abbrev Tab := Nat → Option (List D → M D)
theorem bind_inv {α β : Type} {m : M α} {f : α → M β} {w w' : Wd} {r : β} (h : M.bind m f w = .ok r w') : ∃ a w1, m w = .ok a w1 ∧ f a w1 = .ok r w' := by
  unfold M.bind at h
  cases e : m w with
  | ok a w1 => rw [e] at h; exact ⟨a, w1, rfl, h⟩
  | ex c ns xs w1 => rw [e] at h; cases h
  | bad => rw [e] at h; cases h
def asBl : D → M D
  | .bl b => M.ret (.bl b)
  | _ => M.fail
def notBl : D → M D
  | .bl b => M.ret (.bl (!b))
  | _ => M.fail
theorem asBl_inv {d r : D} {w w' : Wd} (h : asBl d w = .ok r w') : ∃ b, d = .bl b ∧ r = .bl b ∧ w' = w := by
  cases d with
  | bl b => cases h; exact ⟨b, rfl, rfl, rfl⟩
  | _ => cases h
theorem notBl_inv {d r : D} {w w' : Wd} (h : notBl d w = .ok r w') : ∃ b, d = .bl b ∧ r = .bl (!b) ∧ w' = w := by
  cases d with
  | bl b => cases h; exact ⟨b, rfl, rfl, rfl⟩
  | _ => cases h
def onBl (g : M D) : D → M D
  | .bl true => g
  | .bl false => M.ret (.bl false)
  | _ => M.fail
def eqIs (f : D → D → M D) : List D → List D → M D
  | [], [] => M.ret (.bl true)
  | x :: xs, y :: ys => M.bind (f x y) (onBl (eqIs f xs ys))
  | _, _ => M.ret (.bl false)
open Classical in
/-- within a list or a tuple: one thing is equal to itself unasked -/
noncomputable def elemI (f : D → D → M D) (x y : D) : M D := fun w => match f x y w with
  | .ok (.bl b) w' => if w' = w ∧ (b = true ∨ x ≠ y) then .ok (.bl b) w else .bad
  | _ => .bad
theorem elem_inv {f : D → D → M D} {x y r : D} {w w' : Wd} (h : elemI f x y w = .ok r w') : ∃ b, r = .bl b ∧ w' = w ∧ f x y w = .ok (.bl b) w ∧ (b = true ∨ x ≠ y) := by
  unfold elemI at h
  split at h
  · rename_i b w1 e
    by_cases hc : w1 = w ∧ (b = true ∨ x ≠ y)
    · rw [if_pos hc] at h
      cases h
      exact ⟨b, rfl, rfl, by rw [e, hc.1], hc.2⟩
    · rw [if_neg hc] at h; cases h
  · cases h
theorem elem_t {f : D → D → M D} {x y : D} {w : Wd} (h : f x y w = .ok (.bl true) w) : elemI f x y w = .ok (.bl true) w := by
  unfold elemI
  rw [h]
  exact if_pos ⟨rfl, .inl rfl⟩
theorem elem_f {f : D → D → M D} {x y : D} {w : Wd} (h : f x y w = .ok (.bl false) w) (n : x ≠ y) : elemI f x y w = .ok (.bl false) w := by
  unfold elemI
  rw [h]
  exact if_pos ⟨rfl, .inr n⟩
mutual
/-- no script, no hand in it; objects of the classes told alone -/
def solid (T : Tab) : D → Bool
  | .frz _ | .hand => false
  | .tup xs | .lst xs => solidL T xs
  | .ins k _ xs => (T k).isSome && solidL T xs
  | _ => true
def solidL (T : Tab) : List D → Bool
  | [] => true
  | x :: xs => solid T x && solidL T xs
end
noncomputable def eqI (T : Tab) : Nat → D → D → M D
  | 0, _, _ => M.fail
  | n + 1, x, y => if (solid T x && solid T y) = true then (match x, y with
    | .ins k ns xs, y => (match T k with
      | some F => M.bind (noEx (F [.ins k ns xs, y])) asBl
      | none => M.fail)
    | .lst xs, .lst ys => if xs.length = ys.length then eqIs (elemI (eqI T n)) xs ys else M.ret (.bl false)
    | .tup xs, .tup ys => eqIs (elemI (eqI T n)) xs ys
    | x, y => eqD x y) else M.fail
noncomputable def neK (T : Tab) (n : Nat) (x y : D) : M D := if (solid T x && solid T y) = true then (match x, y with
    | .ins k ns xs, y => (match T k with
      | some F => M.bind (noEx (F [.ins k ns xs, y])) notBl
      | none => M.fail)
    | .lst xs, .lst ys => if xs.length = ys.length then M.bind (eqIs (elemI (eqI T n)) xs ys) notBl else M.ret (.bl true)
    | .tup xs, .tup ys => M.bind (eqIs (elemI (eqI T n)) xs ys) notBl
    | x, y => neD x y) else M.fail
noncomputable def neI (T : Tab) : Nat → D → D → M D
  | 0, _, _ => M.fail
  | n + 1, x, y => neK T n x y
section
variable {X : Cx} {cm : Nat → Addr} {T : Tab} {pins : List (Addr × Obj)} {σ : St} {H : Hp} {s : Shared} {N O : NS} {ph : Option Addr} {w : Wd}
theorem k_free (I : Inv X pins σ H s) {a : Addr} {o : Obj} (h : X.K.lookup a = some o) : H a = none := (I.bs a o (I.ok.mod.kin a o h)).2
mutual
/-- one value is one thing -/
theorem rep_inj (I : Inv X pins σ H s) (inj : ∀ i j, (T i).isSome = true → (T j).isSome = true → cm i = cm j → i = j) : ∀ (d e : D) (v : V), solid T d = true → solid T e = true → Rep X.K cm H N ph d v → Rep X.K cm H N ph e v → d = e
  | .non, e, v, _, h2, r1, r2 => by
    cases non_of r1
    cases e with
    | non => rfl
    | bl b => cases bl_of r2
    | int b => cases int_of r2
    | str b => cases str_of r2
    | tup b => obtain ⟨_, _, z, _⟩ := tup_of r2; cases z
    | lst b => obtain ⟨_, _, z, _⟩ := lst_of r2; cases z
    | frz b => simp [solid] at h2
    | hand => simp [solid] at h2
    | ins k ns b => simp only [Rep] at r2; obtain ⟨_, _, _, z, _⟩ := r2; cases z
  | .bl c, e, v, _, h2, r1, r2 => by
    cases bl_of r1
    cases e with
    | non => cases non_of r2
    | bl b => cases bl_of r2; rfl
    | int b => cases int_of r2
    | str b => cases str_of r2
    | tup b => obtain ⟨_, _, z, _⟩ := tup_of r2; cases z
    | lst b => obtain ⟨_, _, z, _⟩ := lst_of r2; cases z
    | frz b => simp [solid] at h2
    | hand => simp [solid] at h2
    | ins k ns b => simp only [Rep] at r2; obtain ⟨_, _, _, z, _⟩ := r2; cases z
  | .int c, e, v, _, h2, r1, r2 => by
    cases int_of r1
    cases e with
    | non => cases non_of r2
    | bl b => cases bl_of r2
    | int b => cases int_of r2; rfl
    | str b => cases str_of r2
    | tup b => obtain ⟨_, _, z, _⟩ := tup_of r2; cases z
    | lst b => obtain ⟨_, _, z, _⟩ := lst_of r2; cases z
    | frz b => simp [solid] at h2
    | hand => simp [solid] at h2
    | ins k ns b => simp only [Rep] at r2; obtain ⟨_, _, _, z, _⟩ := r2; cases z
  | .str c, e, v, _, h2, r1, r2 => by
    cases str_of r1
    cases e with
    | non => cases non_of r2
    | bl b => cases bl_of r2
    | int b => cases int_of r2
    | str b => cases str_of r2; rfl
    | tup b => obtain ⟨_, _, z, _⟩ := tup_of r2; cases z
    | lst b => obtain ⟨_, _, z, _⟩ := lst_of r2; cases z
    | frz b => simp [solid] at h2
    | hand => simp [solid] at h2
    | ins k ns b => simp only [Rep] at r2; obtain ⟨_, _, _, z, _⟩ := r2; cases z
  | .frz _, _, _, h1, _, _, _ => by simp [solid] at h1
  | .hand, _, _, h1, _, _, _ => by simp [solid] at h1
  | .tup xs, e, v, h1, h2, r1, r2 => by
    obtain ⟨a, vs, rfl, t, rl⟩ := tup_of r1
    simp only [solid] at h1
    cases e with
    | non => cases non_of r2
    | bl b => cases bl_of r2
    | int b => cases int_of r2
    | str b => cases str_of r2
    | frz b => simp [solid] at h2
    | hand => simp [solid] at h2
    | tup ys =>
      obtain ⟨a2, us, z, t2, rl2⟩ := tup_of r2
      cases z
      cases I.tuple_inj t.seq t2.seq
      simp only [solid] at h2
      rw [repl_inj I inj xs ys vs h1 h2 rl rl2]
    | lst ys =>
      obtain ⟨a2, us, z, ⟨_, t2⟩, _⟩ := lst_of r2
      cases z
      rcases t with ⟨_, t | ⟨o, t⟩⟩ | ⟨o, its, k, t, _⟩
      · rw [t2] at t; cases t
      · rw [t2] at t; cases t
      · rw [k_free I t] at t2; cases t2
    | ins k ns ys =>
      simp only [Rep] at r2
      obtain ⟨a2, dx, us, z, _, t2, _⟩ := r2
      cases z
      rcases t with ⟨_, t | ⟨o, t⟩⟩ | ⟨o, its, k, t, _⟩
      · rw [t2] at t; cases t
      · rw [t2] at t; cases t
      · rw [k_free I t] at t2; cases t2
  | .lst xs, e, v, h1, h2, r1, r2 => by
    obtain ⟨a, vs, rfl, ⟨_, t⟩, rl⟩ := lst_of r1
    simp only [solid] at h1
    cases e with
    | non => cases non_of r2
    | bl b => cases bl_of r2
    | int b => cases int_of r2
    | str b => cases str_of r2
    | frz b => simp [solid] at h2
    | hand => simp [solid] at h2
    | tup ys =>
      obtain ⟨a2, us, z, t2, _⟩ := tup_of r2
      cases z
      rcases t2 with ⟨_, t2 | ⟨o, t2⟩⟩ | ⟨o, its, k, t2, _⟩
      · rw [t2] at t; cases t
      · rw [t2] at t; cases t
      · rw [k_free I t2] at t; cases t
    | lst ys =>
      obtain ⟨a2, us, z, ⟨_, t2⟩, rl2⟩ := lst_of r2
      cases z
      rw [t] at t2
      cases t2
      simp only [solid] at h2
      rw [repl_inj I inj xs ys vs h1 h2 rl rl2]
    | ins k ns ys =>
      simp only [Rep] at r2
      obtain ⟨a2, dx, us, z, _, t2, _⟩ := r2
      cases z
      rw [t2] at t; cases t
  | .ins k ns xs, e, v, h1, h2, r1, r2 => by
    simp only [Rep] at r1
    obtain ⟨a, dx, vs, rfl, _, t, l, rl⟩ := r1
    simp only [solid, Bool.and_eq_true] at h1
    cases e with
    | non => cases non_of r2
    | bl b => cases bl_of r2
    | int b => cases int_of r2
    | str b => cases str_of r2
    | frz b => simp [solid] at h2
    | hand => simp [solid] at h2
    | tup ys =>
      obtain ⟨a2, us, z, t2, _⟩ := tup_of r2
      cases z
      rcases t2 with ⟨_, t2 | ⟨o, t2⟩⟩ | ⟨o, its, k, t2, _⟩
      · rw [t2] at t; cases t
      · rw [t2] at t; cases t
      · rw [k_free I t2] at t; cases t
    | lst ys =>
      obtain ⟨a2, us, z, ⟨_, t2⟩, _⟩ := lst_of r2
      cases z
      rw [t2] at t; cases t
    | ins k2 ns2 ys =>
      simp only [Rep] at r2
      obtain ⟨a2, dx2, us, z, _, t2, l2, rl2⟩ := r2
      cases z
      rw [t] at t2
      simp only [Option.some.injEq, HO.ins.injEq] at t2
      obtain ⟨ec, _, ez⟩ := t2
      simp only [solid, Bool.and_eq_true] at h2
      have e1 := inj k k2 h1.1 h2.1 ec
      have e2 : ns = ns2 := by
        have := congrArg (List.map Prod.fst) ez
        rwa [List.map_fst_zip (by omega), List.map_fst_zip (by omega)] at this
      have e3 : vs = us := by
        have := congrArg (List.map Prod.snd) ez
        rwa [List.map_snd_zip (by omega), List.map_snd_zip (by omega)] at this
      subst e1 e2 e3
      rw [repl_inj I inj xs ys vs h1.2 h2.2 rl rl2]
theorem repl_inj (I : Inv X pins σ H s) (inj : ∀ i j, (T i).isSome = true → (T j).isSome = true → cm i = cm j → i = j) : ∀ (ds es : List D) (vs : List V), solidL T ds = true → solidL T es = true → RepL X.K cm H N ph ds vs → RepL X.K cm H N ph es vs → ds = es
  | [], es, vs, _, _, r1, r2 => by
    cases r1.unnil
    cases es with
    | nil => rfl
    | cons e es => obtain ⟨_, _, z, _⟩ := r2.uncons; cases z
  | d :: ds, es, vs, h1, h2, r1, r2 => by
    obtain ⟨v, vs', rfl, a1, a2⟩ := r1.uncons
    cases es with
    | nil => cases r2.unnil
    | cons e es =>
      obtain ⟨_, _, z, b1, b2⟩ := r2.uncons
      cases z
      simp only [solidL, Bool.and_eq_true] at h1 h2
      rw [rep_inj I inj d e v h1.1 h2.1 a1 b1, repl_inj I inj ds es vs' h1.2 h2.2 a2 b2]
end
end
end FL

/-! F23: == of such data runs as its mirror tells. -/
namespace FL
open PySem
open L2 (V Hp HO Cx Inv VK XK TE TT TA TS TI TG PE PT PA PS PSs PI PG Ends WX RelV Vals Rd upd upd_same upd_ne ne_of_none EP TP AP OpR R2 CallR FnOk Room Binds)
open PySem.SeqAt
/-- what one knows of the classes with an own __eq__ -/
structure EqC (P : Program) (w : World) (K : PySem.W.Frag) (mg : Str → Option Value) (base : Heap) (cm : Nat → Addr) (T : Tab) (lv : Nat) : Prop where
  inj : ∀ i j, (T i).isSome = true → (T j).isSome = true → cm i = cm j → i = j
  own : ∀ k F, T k = some F → ∃ f fd ps, FnOk P w K mg base (L2N.CX P w) lv f fd ps (spX K cm 2 F) ∧ PySem.W.findIn K (.ref (cm k)) "__eq__" = some (some (.ref f)) ∧ PySem.W.isFn K (.ref f) = true ∧ Binds K fd ps []
  sub : ∀ k j, (T k).isSome = true → (T j).isSome = true → PySem.W.notFirst K (cm k) (.ref (cm j)) = true
  ne : ∀ k, (T k).isSome = true → PySem.W.mroIn K (cm k) (.type "object") = some true ∧ PySem.W.findIn K (.ref (cm k)) "__ne__" = some (some (.builtin "object.__ne__"))
section
variable {X : Cx} {cm : Nat → Addr} {T : Tab} {lv : Nat} {pins : List (Addr × Obj)} {σ : St} {H : Hp} {s : Shared} {O : NS} {ph : Option Addr} {w : Wd} {A : Around}
/-- the state behind: the heap has grown, the world is w' -/
def Bk (X : Cx) (pins : List (Addr × Obj)) (σ : St) (cm : Nat → Addr) (O : NS) (ph : Option Addr) (H : Hp) (w' : Wd) (s' : Shared) : Prop := ∃ H' ph', Inv X pins σ H' s' ∧ Ext ph H H' ∧ PhS H ph ph' ∧ HandOk X.K cm H' O ph' w'
theorem Bk.here (I : Inv X pins σ H s) (h : HandOk X.K cm H O ph w) : Bk X pins σ cm O ph H w s := ⟨H, ph, I, .refl, .refl, h⟩
theorem cx_none {P : Program} {w : World} {outer : List PySem.Env} {H : Hp} {s : Shared} {e : Value} {s' : Shared} (h : L2N.CX P w outer H s (fun _ _ _ => False) e s') : False := by
  obtain ⟨_, _, _, _, _, _, _, _, _, _, _, _, z⟩ := h
  exact z
/-- the own __eq__ is called -/
theorem own_run {k : Nat} {F : List D → M D} (C : EqC X.prog X.w X.K X.mg X.base cm T lv) (hT : T k = some F) (room : Room lv A) (fr : A.frames = X.A.frames) (I : Inv X pins σ H s) {d e : D} {x y : V} {u v : Value} (rx : RelV x u) (ry : RelV y v)
    (tr : OTr H O ph) (hand : HandOk X.K cm H O ph w) (r1 : Rep X.K cm H (OO O ph) ph d x) (r2 : Rep X.K cm H (OO O ph) ph e y) {b : Bool} {w' : Wd} (h : F [d, e] w = .ok (.bl b) w') :
    ∃ f, PySem.W.findIn X.K (.ref (cm k)) "__eq__" = some (some (.ref f)) ∧ PySem.W.isFn X.K (.ref f) = true ∧ wpAny (model X.prog X.w) A (call (.ref f) [u, v]) (fun r s' => r = .bool b ∧ Bk X pins σ cm O ph H w' s') X.xe s := by
  obtain ⟨f, fd, ps, G, a1, a2, hb⟩ := C.own k F hT
  refine ⟨f, a1, a2, ?_⟩
  have sp : spX X.K cm 2 F [x, y] H (fun z H' => z = .bl b ∧ ∃ ph', Ext ph H H' ∧ PhS H ph ph' ∧ HandOk X.K cm H' O ph' w') (fun _ _ _ => False) := by
    refine ⟨rfl, O, [d, e], ph, w, tr, hand, RepL.cons r1 (RepL.one r2), ?_⟩
    rw [h]
    intro z H' ph' x1 s1 hk rz
    exact ⟨bl_of rz, ph', x1, s1, hk⟩
  have e0 : L2.Env0 X.prog X.w X.K X.mg X.base A X.stack s H := by
    have q := I.env0
    exact ⟨by rw [fr]; exact q.frames, q.mod, q.bs, q.bsz, q.funs, q.frf, q.hok, q.bare⟩
  have hl := G.len _ _ _ _ sp
  have bind : BindsTo s fd ⟨[u, v], []⟩ (ps.zip [u, v]) := by
    have := hb s [u, v] I.kIn (by simpa using hl)
    simpa using this
  refine wpAny_call (codeAny_mono (G.run A X.stack s H ⟨[u, v], []⟩ [u, v] [x, y] _ _ room e0 bind (.cons rx (.cons ry .nil)) sp) fun res s' q => ?_)
  match res, q with
  | .error e, q => exact (cx_none q).elim
  | .ok .next, q => exact (show False from q).elim
  | .ok .brk, q => exact (show False from q).elim
  | .ok .cont, q => exact (show False from q).elim
  | .ok (.ret z), q =>
    obtain ⟨z2, H', I', rz, ez, ph', x1, s1, hk⟩ := I.after q
    subst ez
    cases rz
    exact ⟨rfl, H', ph', I', x1, s1, hk⟩
/-- the type of the other one -/
theorem ty_look (C : EqC X.prog X.w X.K X.mg X.base cm T lv) (I : Inv X pins σ H s) {k : Nat} (hk : (T k).isSome = true) {N : NS} {e : D} {y : V} {v : Value} (ry : RelV y v) (r : Rep X.K cm H N ph e y) (so : solid T e = true) :
    ∃ tb, PySem.W.Looks (model X.prog X.w) s.heap (typeOf v) tb ∧ PySem.W.notFirst X.K (cm k) tb = true := by
  have nf : ∀ t : String, PySem.W.subIn X.K (.type t) (.ref (cm k)) = some false → PySem.W.notFirst X.K (cm k) (.type t) = true := fun t h => by
    unfold PySem.W.notFirst
    rw [h]
    simp
  have at_ : ∀ (a : Addr) (o : Obj) (t : Value), s.heap.get? a = some o → o.cls = t → PySem.W.Looks (model X.prog X.w) s.heap (typeOf (.ref a)) t := fun a o t h1 h2 => fun A Q E s' k' q => wpAny_typeOf_ref (k' _ _ h1) (by rw [h2]; exact q)
  cases e with
  | non => cases non_of r; cases (show v = Value.none from ry); exact ⟨_, PySem.W.Looks.of_pure rfl, nf "NoneType" rfl⟩
  | bl b => cases bl_of r; cases (show v = Value.bool b from ry); exact ⟨_, PySem.W.Looks.of_pure rfl, nf "bool" rfl⟩
  | int i => cases int_of r; obtain ⟨t, rfl⟩ := (show ∃ t, v = Value.int i t from ry); exact ⟨_, PySem.W.Looks.of_pure rfl, nf "int" rfl⟩
  | str i => cases str_of r; obtain ⟨t, rfl⟩ := (show ∃ t, v = Value.str i t from ry); exact ⟨_, PySem.W.Looks.of_pure rfl, nf "str" rfl⟩
  | tup ds =>
    obtain ⟨a, vs, rfl, t, _⟩ := tup_of r
    cases (show v = Value.ref a from ry)
    obtain ⟨its, _, ⟨o, e1, e2, _⟩, _⟩ := I.tuple t.seq
    exact ⟨_, at_ a o _ e1 e2, nf "tuple" rfl⟩
  | lst ds =>
    obtain ⟨a, vs, rfl, ⟨_, t⟩, _⟩ := lst_of r
    cases (show v = Value.ref a from ry)
    obtain ⟨_, its, n, _, e1⟩ := I.hok a _ t
    exact ⟨_, at_ a _ _ e1 rfl, nf "list" rfl⟩
  | frz ds => simp [solid] at so
  | hand => simp [solid] at so
  | ins j ns ds =>
    simp only [Rep] at r
    obtain ⟨a, dx, vs, rfl, _, t, _⟩ := r
    cases (show v = Value.ref a from ry)
    obtain ⟨mA, J, _⟩ := L2.ins_get I.hok t
    obtain ⟨od, J, _⟩ := J.look
    simp only [solid, Bool.and_eq_true] at so
    exact ⟨_, J.type, C.sub k j hk so.1⟩
theorem flat_py {n m : Nat} {d e : D} (h1 : D.flat n d = true) (h2 : D.flat m e = true) : PyData.eqv d.py e.py = D.eqv d e := py_eqv n m d e h1 h2
theorem eqD_inv {d e r : D} {w w' : Wd} (h : eqD d e w = .ok r w') : D.flat 60 d = true ∧ D.flat 60 e = true ∧ r = .bl (D.eqv d e) ∧ w' = w := by
  unfold eqD at h
  by_cases hc : D.flat 60 d = true ∧ D.flat 60 e = true
  · rw [if_pos hc] at h; cases h; exact ⟨hc.1, hc.2, rfl, rfl⟩
  · rw [if_neg hc] at h; cases h
theorem neD_inv {d e r : D} {w w' : Wd} (h : neD d e w = .ok r w') : D.flat 60 d = true ∧ D.flat 60 e = true ∧ r = .bl (!D.eqv d e) ∧ w' = w := by
  unfold neD at h
  by_cases hc : D.flat 60 d = true ∧ D.flat 60 e = true
  · rw [if_pos hc] at h; cases h; exact ⟨hc.1, hc.2, rfl, rfl⟩
  · rw [if_neg hc] at h; cases h
section
variable {N : NS} {d e : D} {x y : V} {u v : Value} (I : Inv X pins σ H s) (hu : A.units + 64 < cLine) (f1 : D.flat 60 d = true) (f2 : D.flat 60 e = true) (rx : RelV x u) (ry : RelV y v) (r1 : Rep X.K cm H N ph d x) (r2 : Rep X.K cm H N ph e y)
include I hu f1 f2 rx ry r1 r2
theorem flat_rc : RcAt A s u v (D.eqv d e) := by
  obtain ⟨as, q1⟩ := L2.Dp.reads I _ _ _ (dp_of 60 d x f1 r1) rx
  obtain ⟨bs, q2⟩ := L2.Dp.reads I _ _ _ (dp_of 60 e y f2 r2) ry
  obtain ⟨l1, l2⟩ := py_lay 60 d f1
  obtain ⟨l3, l4⟩ := py_lay 60 e f2
  rw [← flat_py f1 f2]
  exact rcAt_reads q1 q2 l1 l3 (by omega)
theorem flat_eq : EqAt A s u v (D.eqv d e) := by
  obtain ⟨as, q1⟩ := L2.Dp.reads I _ _ _ (dp_of 60 d x f1 r1) rx
  obtain ⟨bs, q2⟩ := L2.Dp.reads I _ _ _ (dp_of 60 e y f2 r2) ry
  obtain ⟨l1, l2⟩ := py_lay 60 d f1
  obtain ⟨l3, l4⟩ := py_lay 60 e f2
  rw [← flat_py f1 f2]
  exact eqAt_reads _ _ A s _ _ _ _ q1 q2 l1 l3 (by omega)
theorem flat_ne : RcNeAt A s u v (!D.eqv d e) := by
  obtain ⟨as, q1⟩ := L2.Dp.reads I _ _ _ (dp_of 60 d x f1 r1) rx
  obtain ⟨bs, q2⟩ := L2.Dp.reads I _ _ _ (dp_of 60 e y f2 r2) ry
  obtain ⟨l1, l2⟩ := py_lay 60 d f1
  obtain ⟨l3, l4⟩ := py_lay 60 e f2
  rw [← flat_py f1 f2]
  exact rcNeAt_reads q1 q2 l1 l3 (by omega)
end
/-- what == of a def's values promises (at depth n) -/
def RcP (X : Cx) (cm : Nat → Addr) (f : D → D → M D) (m : Nat) (run : Value → Value → Sem Value) : Prop :=
  ∀ (A : Around) (pins : List (Addr × Obj)) (s : Shared) (σ : St) (H : Hp) (x y : V) (u v : Value) (O : NS) (ph : Option Addr) (w w' : Wd) (d e : D) (b : Bool), Room m A → A.frames = X.A.frames → Inv X pins σ H s → RelV x u → RelV y v → OTr H O ph → HandOk X.K cm H O ph w →
    Rep X.K cm H (OO O ph) ph d x → Rep X.K cm H (OO O ph) ph e y → f d e w = .ok (.bl b) w' → wpAny (model X.prog X.w) A (run u v) (fun r s' => r = .bool b ∧ Bk X pins σ cm O ph H w' s') X.xe s
/-- .. within a list or a tuple -/
def EbP (X : Cx) (cm : Nat → Addr) (f : D → D → M D) (m : Nat) : Prop :=
  ∀ (A : Around) (pins : List (Addr × Obj)) (s : Shared) (σ : St) (H : Hp) (x y : V) (u v : Value) (O : NS) (ph : Option Addr) (w : Wd) (d e : D) (b : Bool), Room m A → A.frames = X.A.frames → Inv X pins σ H s → RelV x u → RelV y v → OTr H O ph → HandOk X.K cm H O ph w →
    Rep X.K cm H (OO O ph) ph d x → Rep X.K cm H (OO O ph) ph e y → f d e w = .ok (.bl b) w → wpAny (model X.prog X.w) A (eqBool u v) (fun r s' => r = b ∧ Bk X pins σ cm O ph H w s') X.xe s
theorem is_ref {n : Nat} {d e r : D} {w w' : Wd} (h : eqI T n d e w = .ok r w') : (D.flat 60 d = true ∧ D.flat 60 e = true ∧ r = .bl (D.eqv d e) ∧ w' = w) ∨ ((∃ k ns xs, d = .ins k ns xs) ∨ (∃ xs ys, d = .lst xs ∧ e = .lst ys) ∨ ∃ xs ys, d = .tup xs ∧ e = .tup ys) := by
  cases n with
  | zero => cases h
  | succ n =>
    unfold eqI at h
    by_cases hs : (solid T d && solid T e) = true
    · rw [if_pos hs] at h
      cases d with
      | ins k ns xs => exact .inr (.inl ⟨k, ns, xs, rfl⟩)
      | lst xs =>
        cases e with
        | lst ys => exact .inr (.inr (.inl ⟨xs, ys, rfl, rfl⟩))
        | _ => exact .inl (eqD_inv h)
      | tup xs =>
        cases e with
        | tup ys => exact .inr (.inr (.inr ⟨xs, ys, rfl, rfl⟩))
        | _ => exact .inl (eqD_inv h)
      | _ => exact .inl (eqD_inv h)
    · rw [if_neg hs] at h; cases h
theorem solid_of {n : Nat} {d e r : D} {w w' : Wd} (h : eqI T n d e w = .ok r w') : solid T d = true ∧ solid T e = true := by
  cases n with
  | zero => cases h
  | succ n =>
    unfold eqI at h
    by_cases hs : (solid T d && solid T e) = true
    · simpa [Bool.and_eq_true] using hs
    · rw [if_neg hs] at h; cases h
/-- within: the same thing unasked, else asked -/
theorem eb_of {n m : Nat} (C : EqC X.prog X.w X.K X.mg X.base cm T lv) (rc : RcP X cm (eqI T n) m (richCompare .Eq)) : EbP X cm (elemI (eqI T n)) m := by
  intro A pins s σ H x y u v O ph w d e b room fr I rx ry tr hand r1 r2 h
  obtain ⟨b2, eb, _, he, ho⟩ := elem_inv h
  cases eb
  obtain ⟨so1, so2⟩ := solid_of he
  have refs : (∃ a, x = .ref a) → (∃ a, y = .ref a) → wpAny (model X.prog X.w) A (eqBool u v) (fun r s' => r = b ∧ Bk X pins σ cm O ph H w s') X.xe s := by
    rintro ⟨a1, rfl⟩ ⟨a2, rfl⟩
    cases (show u = Value.ref a1 from rx)
    cases (show v = Value.ref a2 from ry)
    by_cases ha : a1 = a2
    · subst ha
      have hb : b = true := by
        rcases ho with ho | ho
        · exact ho
        · exact absurd (rep_inj I C.inj d e _ so1 so2 r1 r2) ho
      subst hb
      exact SeqAt.EqAt.same (A := A) (s := s) (.ref a1) X.prog X.w X.xe _ ⟨rfl, Bk.here I hand⟩
    · refine GQ.eqBool_refG ha (wpAny_mono (rc A pins s σ H _ _ _ _ O ph w w d e b room fr I rx ry tr hand r1 r2 he) (fun r s' q => ?_) fun _ _ z => z)
      obtain ⟨rfl, bk⟩ := q
      exact ⟨b, rfl, rfl, bk⟩
  have is_ins : ∀ {j ns xs z}, Rep X.K cm H (OO O ph) ph (.ins j ns xs) z → ∃ a, z = .ref a := fun r => by
    simp only [Rep] at r
    obtain ⟨a, _, _, z, _⟩ := r
    exact ⟨a, z⟩
  rcases is_ref he with ⟨f1, f2, er, _⟩ | ⟨k, ns, xs, rfl⟩ | ⟨xs, ys, rfl, rfl⟩ | ⟨xs, ys, rfl, rfl⟩
  · cases er
    exact flat_eq I (by have := room.units; omega) f1 f2 rx ry r1 r2 X.prog X.w X.xe _ ⟨rfl, Bk.here I hand⟩
  · -- an object, and whatever
    by_cases hy : ∃ a, y = .ref a
    · exact refs (is_ins r1) hy
    · obtain ⟨a1, rfl⟩ := is_ins r1
      cases (show u = Value.ref a1 from rx)
      have one : (Value.ref a1 == v) = false := by
        cases e with
        | non => cases non_of r2; cases (show v = Value.none from ry); rfl
        | bl b => cases bl_of r2; cases (show v = Value.bool b from ry); rfl
        | int i => cases int_of r2; obtain ⟨t, rfl⟩ := (show ∃ t, v = Value.int i t from ry); rfl
        | str i => cases str_of r2; obtain ⟨t, rfl⟩ := (show ∃ t, v = Value.str i t from ry); rfl
        | tup zs => obtain ⟨a, _, z, _⟩ := tup_of r2; exact absurd ⟨a, z⟩ hy
        | lst zs => obtain ⟨a, _, z, _⟩ := lst_of r2; exact absurd ⟨a, z⟩ hy
        | ins j ms zs => exact absurd (is_ins r2) hy
        | frz zs => simp [solid] at so2
        | hand => simp [solid] at so2
      unfold eqBool
      refine wpAny_holding ?_
      refine wpAny_ite_split (fun hab => absurd hab (by rw [one]; simp)) (fun _ => ?_)
      refine wpAny_bind (wpAny_mono (rc A pins s σ H _ _ _ _ O ph w w _ e b room fr I rx ry tr hand r1 r2 he) (fun r s' q => ?_) fun _ _ z => z)
      obtain ⟨rfl, bk⟩ := q
      exact wpAny_truthy_bool ⟨rfl, bk⟩
  · obtain ⟨a1, _, e1, _⟩ := lst_of r1
    obtain ⟨a2, _, e2, _⟩ := lst_of r2
    exact refs ⟨a1, e1⟩ ⟨a2, e2⟩
  · obtain ⟨a1, _, e1, _⟩ := tup_of r1
    obtain ⟨a2, _, e2, _⟩ := tup_of r2
    exact refs ⟨a1, e1⟩ ⟨a2, e2⟩
end
end FL

/-! F24: == and != as operators on such data. -/
namespace FLN
open PySem PySem.Spec PyProof.Rows PySem.SeqAt
section
variable {prog : Program} {w : World} {A : Around} {E : Value → Shared → Prop} {s : Shared} {K : PySem.W.Frag} {x C f : Addr} {ox : Obj} {od : Option Obj} {b tb : Value}
/-- object.__ne__ of an object whose class has its own __eq__ -/
theorem ne_body (hu : A.units < cLine) (X : K.In s.heap) (I : PySem.W.InstAt s.heap x ox C od) (hs : PySem.W.findIn K (.ref C) "__eq__" = some (some (.ref f))) (hf : PySem.W.isFn K (.ref f) = true) {Q : Fin → Shared → Prop}
    (h : wpAny (model prog w) A (call (.ref f) [.ref x, b]) (fun v s' => ∃ r, v = .bool r ∧ Q (.done (.ret (.bool (!r)))) s') E s) :
    wpAny (model prog w) A (Builtin.«object.__ne__» ⟨[.ref x, b], []⟩) Q E s := by
  unfold Builtin.«object.__ne__»
  repeat (first
    | with_reducible refine wpAny_cRoomFor hu ?_
    | (refine wpAny_bind (m := callSpecialIfBound? (.ref x) (Str.ofString "__eq__") [b])
        (PySem.W.ifBound_K X I hs hf (wpAny_mono h (fun v s' hv => by
          obtain ⟨r, rfl, q⟩ := hv
          repeat (first | exact q | exact wpAny_pure q | exact wpAny_truthy_bool q | (refine wpAny_bind (m := truthy (.bool _)) (wpAny_truthy_bool ?_)) | wp_step)) fun _ _ z => z)))
    | wp_step)
theorem ne_call (hu : A.units + 1 < cLine) (X : K.In s.heap) (I : PySem.W.InstAt s.heap x ox C od) (hm : PySem.W.mroIn K C (.type "object") = some true) (hs : PySem.W.findIn K (.ref C) "__eq__" = some (some (.ref f))) (hf : PySem.W.isFn K (.ref f) = true) {Q : Value → Shared → Prop}
    (h : wpAny (model prog w) A.in1 (call (.ref f) [.ref x, b]) (fun v s' => ∃ r, v = .bool r ∧ Q (.bool (!r)) s') E s) :
    wpAny (model prog w) A (call (.builtin "object.__ne__") [.ref x, b]) Q E s :=
  wpAny_call (codeAny_call_builtin F.cmp_object.ne.plain F.cmpEntry_ne (PySem.W.check_slot F.cmpKind_ne F.cmpSplit_ne (I.type.andThen (PySem.W.looks_mroIn X hm)) (F.cmpArgs_ne _ _)
    (ne_body (A := A.in1) (by show A.units + 1 < cLine; omega) X I hs hf (wpAny_mono h (fun v s' hv => by obtain ⟨r, e, q⟩ := hv; exact ⟨r, e, q⟩) fun _ _ z => z))))
theorem ne_bound {args : List Value} {M : Model} {Q : Option Value → Shared → Prop} (X : K.In s.heap) (I : PySem.W.InstAt s.heap x ox C od) (hs : PySem.W.findIn K (.ref C) "__ne__" = some (some (.builtin "object.__ne__")))
    (h : wpAny M A (call (.builtin "object.__ne__") (.ref x :: args)) (fun v => Q (some v)) E s) : wpAny M A (callSpecialIfBound? (.ref x) "__ne__" args) Q E s := by
  simp only [callSpecialIfBound?, bindSpecialIfBound?]
  refine wpAny_holding (wpAny_bind (wpAny_bind (wpAny_bind (I.type.here ((PySem.W.looks_findIn X hs).here ?_)))))
  refine wpAny_bind (wpAny_askSetting (wpAny_ite ?_))
  have last : wpAny M A (call (.builtin "object.__ne__") ([.ref x] ++ args) >>= fun v => pure (some v)) Q E s := wpAny_bind (wpAny_mono h (fun v s' z => wpAny_pure z) fun _ _ z => z)
  split
  · exact wpAny_bind (wpAny_of_eq (F.cmp_object.ne.bind _) (wpAny_pure (by exact last)))
  · exact wpAny_tryCatch (wpAny_bind (wpAny_of_eq (F.cmp_object.ne.bind _) (wpAny_pure (by exact last))))
theorem ne_rich (hu : A.units + 1 < cLine) (X : K.In s.heap) (I : PySem.W.InstAt s.heap x ox C od) (hb : PySem.W.Looks (model prog w) s.heap (typeOf b) tb) (hn : PySem.W.notFirst K C tb = true) (hm : PySem.W.mroIn K C (.type "object") = some true)
    (h1 : PySem.W.findIn K (.ref C) "__ne__" = some (some (.builtin "object.__ne__"))) (hs : PySem.W.findIn K (.ref C) "__eq__" = some (some (.ref f))) (hf : PySem.W.isFn K (.ref f) = true) {Q : Value → Shared → Prop}
    (h : wpAny (model prog w) A.in1 (call (.ref f) [.ref x, b]) (fun v s' => ∃ r, v = .bool r ∧ Q (.bool (!r)) s') E s) : wpAny (model prog w) A (richCompare .NotEq (.ref x) b) Q E s := by
  have one : wpAny (model prog w) A (tryCompare (.ref x) (cmpInfo .NotEq).2.1 b) (fun r s' => ∃ v, r = some v ∧ Q v s') E s := by
    unfold tryCompare
    refine wpAny_bind (ne_bound X I h1 (ne_call hu X I hm hs hf (wpAny_mono h (fun v s' hv => ?_) fun _ _ z => z)))
    obtain ⟨r, rfl, q⟩ := hv
    exact ⟨r, rfl, wpAny_pure ⟨_, rfl, q⟩⟩
  unfold richCompare
  simp only [oneThing_ref]
  refine wpAny_holding (wpAny_bind (wpAny_cRoomFor (by omega) ?_))
  refine wpAny_bind (I.type.here (wpAny_bind (hb.here ?_)))
  split
  · rename_i q
    have e : PySem.W.subIn K tb (.ref C) = some false := by
      rcases Bool.or_eq_true_iff.mp hn with z | z
      · rw [beq_iff_eq.mp z] at q; simp at q
      · exact beq_iff_eq.mp z
    refine wpAny_bind ((PySem.W.looks_subIn X e).here ?_)
    simp only [Bool.false_eq_true, if_false]
    refine wpAny_bind (wpAny_mono one (fun r s' z => ?_) fun _ _ z => z)
    obtain ⟨v, rfl, q2⟩ := z
    exact wpAny_pure q2
  · refine wpAny_bind (wpAny_pure ?_)
    simp only [Bool.false_eq_true, if_false]
    refine wpAny_bind (wpAny_mono one (fun r s' z => ?_) fun _ _ z => z)
    obtain ⟨v, rfl, q2⟩ := z
    exact wpAny_pure q2
end
end FLN

/-! F25: == and != of data with objects, whole. -/
namespace FL
open PySem
open L2 (V Hp HO Cx Inv VK XK TE TT TA TS TI TG PE PT PA PS PSs PI PG Ends WX RelV Vals Rd upd upd_same upd_ne ne_of_none EP TP AP OpR R2 CallR FnOk Room Binds)
open PySem.SeqAt
section
variable {X : Cx} {cm : Nat → Addr} {T : Tab} {lv : Nat} {pins : List (Addr × Obj)} {σ : St} {H : Hp} {s : Shared} {O : NS} {ph : Option Addr} {w : Wd} {A : Around}
theorem eqIs_w {f : D → D → M D} (hf : ∀ x y r w w', f x y w = .ok r w' → (∃ b, r = .bl b) ∧ w' = w) : ∀ (xs ys : List D) (r : D) (w w' : Wd), eqIs f xs ys w = .ok r w' → (∃ b, r = .bl b) ∧ w' = w
  | [], [], r, w, w', h => by cases h; exact ⟨⟨_, rfl⟩, rfl⟩
  | [], _ :: _, r, w, w', h => by cases h; exact ⟨⟨_, rfl⟩, rfl⟩
  | _ :: _, [], r, w, w', h => by cases h; exact ⟨⟨_, rfl⟩, rfl⟩
  | x :: xs, y :: ys, r, w, w', h => by
    obtain ⟨a, w1, e1, e2⟩ := bind_inv h
    obtain ⟨⟨b, rfl⟩, rfl⟩ := hf x y a w w1 e1
    cases b with
    | true => exact eqIs_w hf xs ys r w1 w' e2
    | false => cases e2; exact ⟨⟨_, rfl⟩, rfl⟩
theorem elem_w {f : D → D → M D} (x y r : D) (w w' : Wd) (h : elemI f x y w = .ok r w') : (∃ b, r = .bl b) ∧ w' = w := by
  obtain ⟨b, rfl, rfl, _⟩ := elem_inv h
  exact ⟨⟨b, rfl⟩, rfl⟩
theorem onBl_inv {g : M D} {d : D} {b : Bool} {w w' : Wd} (h : onBl g d w = .ok (.bl b) w') : (d = .bl true ∧ g w = .ok (.bl b) w') ∨ (d = .bl false ∧ b = false ∧ w' = w) := by
  cases d with
  | bl c => cases c with
    | true => exact .inl ⟨rfl, h⟩
    | false => cases h; exact .inr ⟨rfl, rfl, rfl⟩
  | _ => cases h
/-- what a walk over the items holds -/
def Jt (X : Cx) (pins : List (Addr × Obj)) (σ : St) (cm : Nat → Addr) (O : NS) (ph : Option Addr) (H : Hp) (w w' : Wd) (f : D → D → M D) (b : Bool) (xs ys : List D) (i : Nat) (t : Shared) : Prop :=
  Bk X pins σ cm O ph H w t ∧ eqIs f (xs.drop i) (ys.drop i) w = .ok (.bl b) w'
/-- one turn -/
theorem item_turn {f : D → D → M D} {m : Nat} (hf : EbP X cm (elemI f) m) {xs ys : List D} {vs us : List V} {its its2 : List Value} (rv : Vals vs its) (ru : Vals us its2) (tr : OTr H O ph) (l1 : RepL X.K cm H (OO O ph) ph xs vs) (l2 : RepL X.K cm H (OO O ph) ph ys us)
    (room : Room (m + 1) A) (fr : A.frames = X.A.frames) {b : Bool} {w' : Wd} {i : Nat} (k1 : i < its.toArray.size) (k2 : i < its2.toArray.size) {t : Shared} (j : Jt X pins σ cm O ph H w w' (elemI f) b xs ys i t) :
    wpAny (model X.prog X.w) A.in1 (eqBool its.toArray[i] its2.toArray[i]) (fun r t' => (r = true ∧ Jt X pins σ cm O ph H w w' (elemI f) b xs ys (i + 1) t') ∨ (r = false ∧ b = false ∧ Bk X pins σ cm O ph H w' t')) X.xe t := by
  obtain ⟨⟨H1, ph1, I1, x1, s1, hk1⟩, e⟩ := j
  have m1 : i < its.length := by simpa using k1
  have m2 : i < its2.length := by simpa using k2
  have n1 : i < xs.length := by rw [l1.length, rv.length]; exact m1
  have n2 : i < ys.length := by rw [l2.length, ru.length]; exact m2
  rw [List.drop_eq_getElem_cons n1, List.drop_eq_getElem_cons n2] at e
  obtain ⟨a, w1, e1, e2⟩ := bind_inv e
  obtain ⟨c, ea, ew, he, _⟩ := elem_inv e1
  cases ea; subst ew
  obtain ⟨v, ev, r1⟩ := l1.get (List.getElem?_eq_getElem n1)
  obtain ⟨u, eu, r2⟩ := l2.get (List.getElem?_eq_getElem n2)
  obtain ⟨z1, y1, q1⟩ := rv.get ev
  obtain ⟨z2, y2, q2⟩ := ru.get eu
  have g1 : its.toArray[i] = z1 := by
    have : its[i]? = some its[i] := List.getElem?_eq_getElem m1
    rw [this] at y1
    simpa using y1
  have g2 : its2.toArray[i] = z2 := by
    have : its2[i]? = some its2[i] := List.getElem?_eq_getElem m2
    rw [this] at y2
    simpa using y2
  rw [g1, g2]
  have kk := Ext.keep (O := O) x1 s1
  refine wpAny_mono (hf A.in1 pins t σ H1 v u z1 z2 O ph1 _ _ _ c room.in1 fr I1 q1 q2 (tr.ext x1 s1) hk1 (r1.keep kk s1.m) (r2.keep kk s1.m) e1) (fun r t' q => ?_) fun _ _ z => z
  obtain ⟨rfl, H2, ph2, I2, x2, s2, hk2⟩ := q
  have bk : Bk X pins σ cm O ph H _ t' := ⟨H2, ph2, I2, x1.trans s1 x2, PhS.trans x1 s1 s2, hk2⟩
  rcases onBl_inv e2 with ⟨ec, e3⟩ | ⟨ec, hb, hw⟩
  · cases ec
    exact .inl ⟨rfl, bk, e3⟩
  · cases ec
    subst hw
    exact .inr ⟨rfl, hb, bk⟩
theorem lists_two {a b : Addr} {vs us : List V} {t : Shared} {H1 : Hp} (I : Inv X pins σ H1 t) (ha : H1 a = some (.lst vs)) (hb : H1 b = some (.lst us)) (hl : vs.length = us.length) :
    ∃ its its2 : List Value, Vals vs its ∧ Vals us its2 ∧ FLQ.Two t a b vs.length its.toArray its2.toArray := by
  obtain ⟨_, its, n, r1, e1⟩ := I.hok a _ ha
  obtain ⟨_, its2, n2, r2, e2⟩ := I.hok b _ hb
  exact ⟨its, its2, r1, r2, ⟨n, e1⟩, ⟨n2, e2⟩, by rw [List.size_toArray, r1.length], by rw [List.size_toArray, ← r2.length, hl]⟩
theorem drop_end {xs ys : List D} {m : Nat} (h1 : xs.length = m) (h2 : ys.length = m) {f : D → D → M D} {b : Bool} {w' : Wd} (h : eqIs f (xs.drop m) (ys.drop m) w = .ok (.bl b) w') : b = true ∧ w' = w := by
  rw [List.drop_eq_nil_of_le (by omega), List.drop_eq_nil_of_le (by omega)] at h
  cases h; exact ⟨rfl, rfl⟩
theorem drop_min {xs ys : List D} {f : D → D → M D} {b : Bool} {w' : Wd} (h : eqIs f (xs.drop (min xs.length ys.length)) (ys.drop (min xs.length ys.length)) w = .ok (.bl b) w') : b = (xs.length == ys.length) ∧ w' = w := by
  rcases Nat.lt_trichotomy xs.length ys.length with q | q | q
  · rw [Nat.min_eq_left (by omega), List.drop_length, List.drop_eq_getElem_cons q] at h
    cases h
    exact ⟨by simp; omega, rfl⟩
  · rw [q, Nat.min_self] at h
    obtain ⟨rfl, rfl⟩ := drop_end q rfl h
    exact ⟨by simp [q], rfl⟩
  · rw [Nat.min_eq_right (by omega), List.drop_length, List.drop_eq_getElem_cons q] at h
    cases h
    exact ⟨by simp; omega, rfl⟩
theorem rcP (C : EqC X.prog X.w X.K X.mg X.base cm T lv) : ∀ n, RcP X cm (eqI T n) (lv + n) (richCompare .Eq)
  | 0 => fun A pins s σ H x y u v O ph w w' d e b room fr I rx ry tr hand r1 r2 h => by cases h
  | n + 1 => fun A pins s σ H x y u v O ph w w' d e b room fr I rx ry tr hand r1 r2 h => by
    have eb := eb_of C (rcP C n)
    obtain ⟨so1, so2⟩ := solid_of h
    have flat : eqD d e w = .ok (.bl b) w' → wpAny (model X.prog X.w) A (richCompare .Eq u v) (fun r s' => r = .bool b ∧ Bk X pins σ cm O ph H w' s') X.xe s := fun h => by
      obtain ⟨f1, f2, er, ew⟩ := eqD_inv h
      cases er
      subst ew
      exact flat_rc I (by have := room.units; omega) f1 f2 rx ry r1 r2 X.prog X.w X.xe _ ⟨rfl, Bk.here I hand⟩
    have h0 := h
    unfold eqI at h
    rw [if_pos (by rw [so1, so2]; rfl)] at h
    cases d with
    | ins k ns xs =>
      simp only [solid, Bool.and_eq_true] at so1
      have h : (match T k with | some F => M.bind (noEx (F [.ins k ns xs, e])) asBl | none => M.fail) w = .ok (.bl b) w' := h
      cases hT : T k with
      | none => rw [hT] at h; cases h
      | some F =>
        rw [hT] at h
        obtain ⟨a, w1, e1, e2⟩ := bind_inv h
        obtain ⟨c, rfl, ec, ew⟩ := asBl_inv e2
        cases ec; subst ew
        have e3 : F [.ins k ns xs, e] w = .ok (.bl b) w' := by
          unfold noEx at e1
          split at e1
          · rename_i z; rw [z]; exact e1
          · cases e1
        obtain ⟨tb, look, nf⟩ := ty_look C I so1.1 ry r2 so2
        have r1' := r1
        simp only [Rep] at r1'
        obtain ⟨a1, dx, vs, rfl, _, t, _⟩ := r1'
        cases (show u = Value.ref a1 from rx)
        obtain ⟨f, q1, q2, run⟩ := own_run (A := A) C hT (room.mono (by omega)) fr I rx ry tr hand r1 r2 e3
        obtain ⟨mA, J, _⟩ := L2.ins_get I.hok t
        obtain ⟨od, J, _⟩ := J.look
        obtain ⟨mm, hF⟩ := I.fr
        refine PySem.W.cmp_K (op := .Eq) (by have := room.units; omega) hF I.ok.mod.kin J look nf q1 q2 (wpAny_mono run (fun r s' q => ?_) fun _ _ z => z)
        obtain ⟨rfl, bk⟩ := q
        exact ⟨rfl, bk⟩
    | lst xs =>
      cases e with
      | lst ys =>
        obtain ⟨a, vs, rfl, ⟨na, ta⟩, la⟩ := lst_of r1
        obtain ⟨a2, us, rfl, ⟨na2, ta2⟩, lb⟩ := lst_of r2
        cases (show u = Value.ref a from rx)
        cases (show v = Value.ref a2 from ry)
        have h : (if xs.length = ys.length then eqIs (elemI (eqI T n)) xs ys else M.ret (.bl false)) w = .ok (.bl b) w' := h
        by_cases hl : xs.length = ys.length
        · rw [if_pos hl] at h
          have hl2 : vs.length = us.length := by rw [← la.length, ← lb.length, hl]
          have keepL : ∀ {H1 : Hp}, Ext ph H H1 → H1 a = some (.lst vs) ∧ H1 a2 = some (.lst us) := fun x1 => ⟨x1 a _ (fun z => na (.inr z)) ta, x1 a2 _ (fun z => na2 (.inr z)) ta2⟩
          refine FLQ.rc_lists (m := vs.length) (by have := room.units; omega) (fun i t => Jt X pins σ cm O ph H w w' (elemI (eqI T n)) b xs ys i t) (fun i t j => ?_) (fun t j => ?_) ⟨Bk.here I hand, h⟩
          · obtain ⟨H1, ph1, I1, x1, s1, hk1⟩ := j.1
            obtain ⟨g1, g2⟩ := keepL x1
            obtain ⟨its, its2, rv, ru, two⟩ := lists_two I1 g1 g2 hl2
            refine ⟨_, _, two, fun k1 k2 => wpAny_mono (item_turn eb rv ru tr la lb room fr k1 k2 j) (fun r t' q => ?_) fun _ _ z => z⟩
            rcases q with q | ⟨hr, hb, bk⟩
            · exact .inl q
            · subst hb
              obtain ⟨H2, ph2, I2, x2, s2, hk2⟩ := id bk
              obtain ⟨g3, g4⟩ := keepL x2
              obtain ⟨its3, its4, _, _, two2⟩ := lists_two I2 g3 g4 hl2
              exact .inr ⟨hr, ⟨_, _, two2⟩, (fun z => nomatch z), rfl, bk⟩
          · obtain ⟨rfl, rfl⟩ := drop_end (by rw [la.length]) (by rw [← hl, la.length]) j.2
            exact ⟨rfl, j.1⟩
        · rw [if_neg hl] at h
          cases h
          obtain ⟨_, its, k1, q1, e1⟩ := I.hok a _ ta
          obtain ⟨_, its2, k2, q2, e2⟩ := I.hok a2 _ ta2
          refine RcAt.lists_lengths (items := its.toArray) (items2 := its2.toArray) ⟨_, e1, rfl, _, rfl⟩ ⟨_, e2, rfl, _, rfl⟩ ?_ (by have := room.units; omega) X.prog X.w X.xe _ ⟨rfl, Bk.here I hand⟩
          rw [List.size_toArray, List.size_toArray, ← q1.length, ← q2.length, ← la.length, ← lb.length]
          simpa using hl
      | _ => exact flat h
    | tup xs =>
      cases e with
      | tup ys =>
        obtain ⟨a, vs, rfl, ta, la⟩ := tup_of r1
        obtain ⟨a2, us, rfl, ta2, lb⟩ := tup_of r2
        cases (show u = Value.ref a from rx)
        cases (show v = Value.ref a2 from ry)
        have h : eqIs (elemI (eqI T n)) xs ys w = .ok (.bl b) w' := h
        obtain ⟨its, rv, hv, _⟩ := I.tuple ta.seq
        obtain ⟨its2, ru, hu, _⟩ := I.tuple ta2.seq
        refine FLQ.rc_tuples (by have := room.units; omega) (fun i t => Jt X pins σ cm O ph H w w' (elemI (eqI T n)) b xs ys i t) hv hu (fun i k1 k2 t j => wpAny_mono (item_turn eb rv ru tr la lb room fr k1 k2 j) (fun r t' q => ?_) fun _ _ z => z) (fun t j => ?_) ⟨Bk.here I hand, h⟩
        · rcases q with q | ⟨hr, hb, bk⟩
          · exact .inl q
          · subst hb
            exact .inr ⟨hr, rfl, bk⟩
        · have sz : its.toArray.size = xs.length ∧ its2.toArray.size = ys.length := by
            rw [List.size_toArray, List.size_toArray, ← rv.length, ← ru.length, ← la.length, ← lb.length]
            exact ⟨rfl, rfl⟩
          obtain ⟨bk, e⟩ := j
          rw [sz.1, sz.2] at e ⊢
          obtain ⟨rfl, rfl⟩ := drop_min e
          exact ⟨rfl, bk⟩
      | _ => exact flat h
    | _ => exact flat h
end
end FL

/-! F26: != of data with objects; the two as rules. -/
namespace FL
open PySem
open L2 (V Hp HO Cx Inv VK XK TE TT TA TS TI TG PE PT PA PS PSs PI PG Ends WX RelV Vals Rd upd upd_same upd_ne ne_of_none EP TP AP OpR R2 CallR FnOk Room Binds)
open PySem.SeqAt
section
variable {X : Cx} {cm : Nat → Addr} {T : Tab} {lv : Nat} {pins : List (Addr × Obj)} {σ : St} {H : Hp} {s : Shared} {O : NS} {ph : Option Addr} {w : Wd} {A : Around}
theorem solid_ofN {n : Nat} {d e r : D} {w w' : Wd} (h : neI T n d e w = .ok r w') : solid T d = true ∧ solid T e = true := by
  cases n with
  | zero => cases h
  | succ n =>
    have h : neK T n d e w = .ok r w' := h
    unfold neK at h
    by_cases hs : (solid T d && solid T e) = true
    · simpa [Bool.and_eq_true] using hs
    · rw [if_neg hs] at h; cases h
theorem rcNP (C : EqC X.prog X.w X.K X.mg X.base cm T lv) : ∀ n, RcP X cm (neI T n) (lv + n) (richCompare .NotEq)
  | 0 => fun A pins s σ H x y u v O ph w w' d e b room fr I rx ry tr hand r1 r2 h => by cases h
  | n + 1 => fun A pins s σ H x y u v O ph w w' d e b room fr I rx ry tr hand r1 r2 h => by
    have eb := eb_of C (rcP C n)
    obtain ⟨so1, so2⟩ := solid_ofN h
    have flat : neD d e w = .ok (.bl b) w' → wpAny (model X.prog X.w) A (richCompare .NotEq u v) (fun r s' => r = .bool b ∧ Bk X pins σ cm O ph H w' s') X.xe s := fun h => by
      obtain ⟨f1, f2, er, ew⟩ := neD_inv h
      cases er
      subst ew
      exact flat_ne I (by have := room.units; omega) f1 f2 rx ry r1 r2 X.prog X.w X.xe _ ⟨rfl, Bk.here I hand⟩
    have h : neK T n d e w = .ok (.bl b) w' := h
    unfold neK at h
    rw [if_pos (by rw [so1, so2]; rfl)] at h
    cases d with
    | ins k ns xs =>
      simp only [solid, Bool.and_eq_true] at so1
      have h : (match T k with | some F => M.bind (noEx (F [.ins k ns xs, e])) notBl | none => M.fail) w = .ok (.bl b) w' := h
      cases hT : T k with
      | none => rw [hT] at h; cases h
      | some F =>
        rw [hT] at h
        obtain ⟨a, w1, e1, e2⟩ := bind_inv h
        obtain ⟨c, rfl, ec, ew⟩ := notBl_inv e2
        cases ec; subst ew
        have e3 : F [.ins k ns xs, e] w = .ok (.bl c) w' := by
          unfold noEx at e1
          split at e1
          · rename_i z; rw [z]; exact e1
          · cases e1
        obtain ⟨tb, look, nf⟩ := ty_look C I so1.1 ry r2 so2
        have r1' := r1
        simp only [Rep] at r1'
        obtain ⟨a1, dx, vs, rfl, _, t, _⟩ := r1'
        cases (show u = Value.ref a1 from rx)
        obtain ⟨f, q1, q2, run⟩ := own_run (A := A.in1) C hT ((room.mono (show lv + 1 ≤ lv + (n + 1) by omega)).in1) fr I rx ry tr hand r1 r2 e3
        obtain ⟨mA, J, _⟩ := L2.ins_get I.hok t
        obtain ⟨od, J, _⟩ := J.look
        obtain ⟨m1, m2⟩ := C.ne k so1.1
        refine FLN.ne_rich (by have := room.units; omega) I.kIn J look nf m1 m2 q1 q2 (wpAny_mono run (fun r s' q => ?_) fun _ _ z => z)
        obtain ⟨rfl, bk⟩ := q
        exact ⟨c, rfl, rfl, bk⟩
    | lst xs =>
      cases e with
      | lst ys =>
        obtain ⟨a, vs, rfl, ⟨na, ta⟩, la⟩ := lst_of r1
        obtain ⟨a2, us, rfl, ⟨na2, ta2⟩, lb⟩ := lst_of r2
        cases (show u = Value.ref a from rx)
        cases (show v = Value.ref a2 from ry)
        have h : (if xs.length = ys.length then M.bind (eqIs (elemI (eqI T n)) xs ys) notBl else M.ret (.bl true)) w = .ok (.bl b) w' := h
        by_cases hl : xs.length = ys.length
        · rw [if_pos hl] at h
          obtain ⟨z, wz, h, hz⟩ := bind_inv h
          obtain ⟨c, rfl, ec, ew⟩ := notBl_inv hz
          cases ec; subst ew
          have hl2 : vs.length = us.length := by rw [← la.length, ← lb.length, hl]
          have keepL : ∀ {H1 : Hp}, Ext ph H H1 → H1 a = some (.lst vs) ∧ H1 a2 = some (.lst us) := fun x1 => ⟨x1 a _ (fun z => na (.inr z)) ta, x1 a2 _ (fun z => na2 (.inr z)) ta2⟩
          refine FLQ.rc_listsN (m := vs.length) (by have := room.units; omega) (fun i t => Jt X pins σ cm O ph H w w' (elemI (eqI T n)) c xs ys i t) (fun i t j => ?_) (fun t j => ?_) ⟨Bk.here I hand, h⟩
          · obtain ⟨H1, ph1, I1, x1, s1, hk1⟩ := j.1
            obtain ⟨g1, g2⟩ := keepL x1
            obtain ⟨its, its2, rv, ru, two⟩ := lists_two I1 g1 g2 hl2
            refine ⟨_, _, two, fun k1 k2 => wpAny_mono (item_turn eb rv ru tr la lb room fr k1 k2 j) (fun r t' q => ?_) fun _ _ z => z⟩
            rcases q with q | ⟨hr, hb, bk⟩
            · exact .inl q
            · subst hb
              obtain ⟨H2, ph2, I2, x2, s2, hk2⟩ := id bk
              obtain ⟨g3, g4⟩ := keepL x2
              obtain ⟨its3, its4, _, _, two2⟩ := lists_two I2 g3 g4 hl2
              exact .inr ⟨hr, ⟨_, _, two2⟩, (fun z => nomatch z), rfl, bk⟩
          · obtain ⟨rfl, rfl⟩ := drop_end (by rw [la.length]) (by rw [← hl, la.length]) j.2
            exact ⟨rfl, j.1⟩
        · rw [if_neg hl] at h
          cases h
          obtain ⟨_, its, k1, q1, e1⟩ := I.hok a _ ta
          obtain ⟨_, its2, k2, q2, e2⟩ := I.hok a2 _ ta2
          refine RcNeAt.lists_lengths (items := its.toArray) (items2 := its2.toArray) ⟨_, e1, rfl, _, rfl⟩ ⟨_, e2, rfl, _, rfl⟩ ?_ (by have := room.units; omega) X.prog X.w X.xe _ ⟨rfl, Bk.here I hand⟩
          rw [List.size_toArray, List.size_toArray, ← q1.length, ← q2.length, ← la.length, ← lb.length]
          simpa using hl
      | _ => exact flat h
    | tup xs =>
      cases e with
      | tup ys =>
        obtain ⟨a, vs, rfl, ta, la⟩ := tup_of r1
        obtain ⟨a2, us, rfl, ta2, lb⟩ := tup_of r2
        cases (show u = Value.ref a from rx)
        cases (show v = Value.ref a2 from ry)
        have h : M.bind (eqIs (elemI (eqI T n)) xs ys) notBl w = .ok (.bl b) w' := h
        obtain ⟨z, wz, h, hz⟩ := bind_inv h
        obtain ⟨c, rfl, ec, ew⟩ := notBl_inv hz
        cases ec; subst ew
        obtain ⟨its, rv, hv, _⟩ := I.tuple ta.seq
        obtain ⟨its2, ru, hu, _⟩ := I.tuple ta2.seq
        refine FLQ.rc_tuplesN (by have := room.units; omega) (fun i t => Jt X pins σ cm O ph H w w' (elemI (eqI T n)) c xs ys i t) hv hu (fun i k1 k2 t j => wpAny_mono (item_turn eb rv ru tr la lb room fr k1 k2 j) (fun r t' q => ?_) fun _ _ z => z) (fun t j => ?_) ⟨Bk.here I hand, h⟩
        · rcases q with q | ⟨hr, hb, bk⟩
          · exact .inl q
          · subst hb
            exact .inr ⟨hr, rfl, bk⟩
        · have sz : its.toArray.size = xs.length ∧ its2.toArray.size = ys.length := by
            rw [List.size_toArray, List.size_toArray, ← rv.length, ← ru.length, ← la.length, ← lb.length]
            exact ⟨rfl, rfl⟩
          obtain ⟨bk, e⟩ := j
          rw [sz.1, sz.2] at e ⊢
          obtain ⟨rfl, rfl⟩ := drop_min e
          exact ⟨rfl, bk⟩
      | _ => exact flat h
    | _ => exact flat h
end
/-- an operator of two values, told by what comes out and what state is behind -/
def rTwo (K : PySem.W.Frag) (cm : Nat → Addr) (f : D → D → M D) : R2 := fun x y H Q => ∃ O ph w w' d e b, OTr H O ph ∧ HandOk K cm H O ph w ∧ Rep K cm H (OO O ph) ph d x ∧ Rep K cm H (OO O ph) ph e y ∧ f d e w = .ok (.bl b) w' ∧
  ∀ H' ph', Ext ph H H' → PhS H ph ph' → HandOk K cm H' O ph' w' → Q (.bl b) H'
def onlyBl (f : D → D → M D) (x y : D) : M D := fun w => match f x y w with
  | .ok (.bl b) w' => .ok (.bl b) w'
  | _ => .bad
theorem onlyBl_ok {f : D → D → M D} {x y : D} {w w' : Wd} {b : Bool} (h : f x y w = .ok (.bl b) w') : onlyBl f x y w = .ok (.bl b) w' := by unfold onlyBl; rw [h]
theorem two_ok {K : PySem.W.Frag} {cm : Nat → Addr} {f : D → D → M D} : Op2 K cm (onlyBl f) (rTwo K cm f) := by
  intro xa O Wx ρ σ ph H w Q d1 d2 v1 v2 r1 r2 h
  have hp := h.post
  unfold onlyBl at hp
  split at hp
  · rename_i b w' e
    refine ⟨O, ph, w, w', d1, d2, b, h.env.tr, h.hand, r1, r2, e, fun H' ph' x s hk => hp (.bl b) H' ph' x s hk ?_⟩
    show Rep K cm _ _ _ _ _
    simp only [Rep]
  · exact (show False from hp).elim
theorem op_two {X : Cx} {cm : Nat → Addr} {f : D → D → M D} {m : Nat} {op : CmpOp} (run : RcP X cm f m (richCompare op)) (hop : ∀ u v, compareOp op u v = richCompare op u v) (room : Room m X.A) : OpR X (compareOp op) (rTwo X.K cm f) := by
  intro pins s σ H x y v u Q I rx ry h
  obtain ⟨O, ph, w, w', d, e, b, tr, hand, r1, r2, hf, post⟩ := h
  rw [hop]
  refine wpAny_mono (run X.A pins s σ H x y _ _ O ph w w' d e b room rfl I rx ry tr hand r1 r2 hf) (fun r s' q => ?_) fun _ _ z => z
  obtain ⟨rfl, H', ph', I', x1, s1, hk⟩ := q
  exact ⟨.bl b, H', I', rfl, post H' ph' x1 s1 hk⟩
theorem op_eqI {X : Cx} {cm : Nat → Addr} {T : Tab} {lv n : Nat} (C : EqC X.prog X.w X.K X.mg X.base cm T lv) (room : Room (lv + n) X.A) : OpR X (compareOp .Eq) (rTwo X.K cm (eqI T n)) := op_two (rcP C n) (fun _ _ => rfl) room
theorem op_neI {X : Cx} {cm : Nat → Addr} {T : Tab} {lv n : Nat} (C : EqC X.prog X.w X.K X.mg X.base cm T lv) (room : Room (lv + n) X.A) : OpR X (compareOp .NotEq) (rTwo X.K cm (neI T n)) := op_two (rcNP C n) (fun _ _ => rfl) room
end FL

/-! F27: __init__ as a def; C(..); o.f; isinstance(e, C). -/
namespace FL
open PySem
open L2 (V Hp HO Cx Inv VK XK TE TT TA TS TI TG PE PT PA PS PSs PI PG Ends WX RelV Vals Rd upd upd_same upd_ne ne_of_none EP TP AP OpR R2 CallR FnOk Room Binds)
/-- an __init__: m values behind the object; it gives the fields' values -/
def spN (K : PySem.W.Frag) (cm : Nat → Addr) (C : Addr) (ns : List Str) (m : Nat) (F : List D → M (List D)) : L2.Sp := fun vs H Q E => vs.length = m + 1 ∧ ∃ (q : MkQ) (us : List V) (ds : List D) (w : Wd), q.C = C ∧ q.Ok K cm ∧ vs = .ref q.a :: us ∧ H = q.H ∧ HandOk K cm q.B q.O0 q.ph0 w ∧ RepL K cm q.B (OO q.O0 q.ph0) q.ph0 ds us ∧
  PostN K cm q ns (fun cls d _ H' => E cls d H') { nx := fun _ H' => Q .non H', rt := Q } (F ds w)
section
variable {P : Program} {w : World} {K : PySem.W.Frag} {mg : Str → Option Value} {base : Heap} {cm : Nat → Addr}
theorem start_slf {q : MkQ} {us : List V} {ds : List D} {wd : Wd} {N : List Str} (ok : q.Ok K cm) (hl : ds.length + 1 ≤ N.length) (hand : HandOk K cm q.B q.O0 q.ph0 wd) (r : RepL K cm q.B (OO q.O0 q.ph0) q.ph0 ds us) :
    StS K cm (some (q.a, 0, q.dx)) q.sq (FL.Slot.slf :: (vals ds ++ List.replicate (N.length - ds.length - 1) FL.Slot.none)) q.ph0 wd (L2.start N (.ref q.a :: us)) q.H := by
  have lu := r.length
  have own : ∀ {i : Nat} {xs : List D}, (FL.Slot.slf :: (vals ds ++ List.replicate (N.length - ds.length - 1) FL.Slot.none))[i]? ≠ some (.own xs) := fun {i xs} e => by
    cases i with
    | zero => cases e
    | succ i =>
      rw [List.getElem?_cons_succ] at e
      rcases vals_get e with ⟨d, _, z⟩ | z <;> cases z
  have nst : ∀ {i : Nat} {xs : List D}, (FL.Slot.slf :: (vals ds ++ List.replicate (N.length - ds.length - 1) FL.Slot.none))[i]? ≠ some (.nest xs) := fun {i xs} e => by
    cases i with
    | zero => cases e
    | succ i =>
      rw [List.getElem?_cons_succ] at e
      rcases vals_get e with ⟨d, _, z⟩ | z <;> cases z
  have sub : ∀ a, OwnS q.sq.O0 (FL.Slot.slf :: (vals ds ++ List.replicate (N.length - ds.length - 1) FL.Slot.none)) (L2.start N (.ref q.a :: us)) a → q.sq.O0 a := fun a z => by
    rcases z with z | ⟨i, xs, e, _⟩
    · exact z
    · exact absurd e own
  have grow : ∀ b o, q.B b = some o → q.H b = some o := fun b o e => by
    unfold MkQ.H
    rw [upd_ne (ne_of_none e ok.ha), upd_ne (ne_of_none e ok.hd)]; exact e
  have kk : Keep q.B (OO q.O0 q.ph0) q.H (OO (OwnS q.sq.O0 (FL.Slot.slf :: (vals ds ++ List.replicate (N.length - ds.length - 1) FL.Slot.none)) (L2.start N (.ref q.a :: us))) q.ph0) := by
    refine ⟨fun b o _ e => grow b o e, fun b o e z => ?_⟩
    rcases z with z | z
    · rcases sub b z with z | z
      · exact .inl z
      · rw [z, ok.ha] at e; cases e
    · exact .inr z
  have tr : OTr q.H q.sq.O0 q.ph0 := fun b z => by
    rcases z with z | z
    · obtain ⟨n, u, e, k⟩ := ok.tr b z
      exact ⟨n, u, grow b u e, k⟩
    · rw [z]; exact ⟨ok.nph, _, MkQ.at_, .inr ⟨_, _, _, rfl⟩⟩
  refine ⟨⟨?_, fun i t x e1 e2 => ?_, tr.less sub⟩, hand.keep kk fun p _ o e => grow p o e, .refl, .refl, tr, fun i j p xs ys e => absurd e own, fun i p xs e => absurd e own, fun i es v e => absurd e nst⟩
  · unfold L2.start vals
    simp
    omega
  · cases i with
    | zero =>
      cases e1
      have e3 : (L2.start N (.ref q.a :: us))[0]? = some (some (.ref q.a)) := rfl
      rw [e3] at e2
      cases e2
      exact ⟨q.a, 0, q.dx, rfl, rfl⟩
    | succ i =>
      rw [List.getElem?_cons_succ] at e1
      rcases vals_get e1 with ⟨d, ed, es⟩ | es
      · subst es
        obtain ⟨v, ev, rv⟩ := r.get ed
        have hi : i < us.length := (List.getElem?_eq_some_iff.mp ev).1
        unfold L2.start at e2
        rw [List.map_cons, List.cons_append, List.getElem?_cons_succ, List.getElem?_append_left (by simpa using hi), List.getElem?_map, ev] at e2
        cases e2
        exact ⟨v, rfl, rv.keep kk (fun _ e => e) d v⟩
      · subst es; trivial
theorem init_ok {x qual : Str} {params : Arguments} {body : List Stmt} {scope : Scope} {dvs : List V} {f : Addr} {fd : FuncData} {N ps ns : List Str} {C : Addr} {k m : Nat} {b : SF} {es : List EF} (F : L2.FunD K x qual params body scope dvs [] f fd) (S : L2.FnScope N ps scope)
    (hps : ps.length = m + 1) (hn : m + 1 ≤ N.length)
    (hb : ∀ (cdv : Value) (A : Around) (outer : List PySem.Env) (s : Shared) (H : Hp) (E : XK) (q : MkQ), q.C = C → q.Ok K cm → Room k (A.deeper (PyProof.Rows.envOfC qual scope s.heap.objs.size f cdv)) →
      PSs (L2.cxOf (L2N.CX P w) P w K mg base N qual scope f cdv A outer s H E) body (tPre K cm (some (q.a, 0, q.dx)) q ns (fun cls d _ H' => E cls d H') b es)) :
    FnOk P w K mg base (L2N.CX P w) (k + 1) f fd ps (spN K cm C ns m (initF N.length b es)) := by
  refine F.ok S (fun vs H Q E h => by rw [h.1, hps]) fun cdv A outer s H vs Q E hr h => ?_
  obtain ⟨hl, q, us, ds, wd, hC, ok, rfl, rfl, hand, r, post⟩ := h
  refine ⟨_, hb cdv A outer s q.H E q hC ok hr, FL.Slot.slf :: (vals ds ++ List.replicate (N.length - ds.length - 1) FL.Slot.none), q.ph0, wd, start_slf ok (by rw [r.length]; simp only [List.length_cons] at hl; omega) hand r, post⟩
end

/-! ### C(..) -/
def eMake (k : Nat) (ns : List Str) (F : List D → M (List D)) (fs : List EF) : EF := fun ρ => M.bind (evs fs ρ) fun ds => M.bind (F ds) fun xs => M.ret (.ins k ns xs)
section
variable {X : Cx} {c : Cfg} {pos : Pos} {e : Expr} {fe : EF} {es : List Expr} {fs : List EF}
theorem run_mk {k : Nat} {f C : Addr} {fd : FuncData} {ps ns : List Str} {ds : List Value} {dvs : List V} {m : Nat} {F : List D → M (List D)} {pins : List (Addr × Obj)} {σ : St} {H : Hp} {s : Shared} {Q : VK} {us : List Value} {vs : List V} (M1 : L2.Mk X.K C f)
    (G : FnOk X.prog X.w X.K X.mg X.base (L2N.CX X.prog X.w) k f fd ps (spN X.K c.cm C ns m F)) (hr : Room (k + 1) X.A) (hb : Binds X.K fd ps ds) (hd : Vals dvs ds) {Wx : WX} (hx : L2N.Takes X Wx) (I : Inv X pins σ H s) (r : Vals vs us)
    (h : ∀ a dx, H a = none → H dx = none → dx ≠ a → spN X.K c.cm C ns m F (.ref a :: (vs ++ dvs)) (upd (upd H dx (.own a)) a (.ins C dx [])) (fun v H2 => v = .non ∧ Q (.ref a) H2) (fun cls d H' => Wx cls d σ H')) :
    wpAny (model X.prog X.w) X.A (call (.ref C) us) (EP X pins σ Q) X.xe s := by
  have sp := h (s.heap.objs.size + 1) s.heap.objs.size (I.hok.fresh (Nat.le_succ _)) (I.hok.fresh (Nat.le_refl _)) (Nat.ne_of_lt (Nat.lt_succ_self _))
  have born := L2.Inv.made (C := C) I
  have all : Vals (V.ref (s.heap.objs.size + 1) :: (vs ++ dvs)) (Value.ref (s.heap.objs.size + 1) :: (us ++ ds)) := .cons rfl (r.append hd)
  have len : (Value.ref (s.heap.objs.size + 1) :: us ++ ds).length = ps.length := by
    have z := all.length
    rw [G.len _ _ _ _ sp] at z
    exact z.symm
  refine wpAny_call (L2.make_map (f := f) I.kIn M1.makes M1.init (beq_iff_eq.mp M1.fn) (codeAny_mono (G.run _ X.stack _ _ ⟨Value.ref (s.heap.objs.size + 1) :: us, []⟩ (Value.ref (s.heap.objs.size + 1) :: (us ++ ds)) _ _ _ (hr.make C us [])
    (born.env0.make C us []) (hb _ (Value.ref (s.heap.objs.size + 1) :: us) born.kIn len) all sp) fun res s' q => ?_))
  match res, q with
  | .error e, q => exact L2N.passAt hx σ pins _ _ e s' born q
  | .ok (.ret u), q =>
    obtain ⟨v, H', I2, rv, ev, q2⟩ := born.after q
    subst ev
    exact ⟨rv, ⟨V.ref (s.heap.objs.size + 1), H', I2, rfl, q2⟩⟩
  | .ok .next, q => exact (show False from q).elim
  | .ok .brk, q => exact (show False from q).elim
  | .ok .cont, q => exact (show False from q).elim
/-- C(e, ..), the other parameters by their defaults -/
theorem px_make {x : Str} {p : Pos} {k k0 : Nat} {f C : Addr} {fd : FuncData} {ps ns : List Str} {ds : List Value} {dvs : List V} {dds : List D} {m : Nat} {F : List D → M (List D)} (M1 : L2.Mk X.K C f) (hC : c.cm k0 = C)
    (G : FnOk X.prog X.w X.K X.mg X.base (L2N.CX X.prog X.w) k f fd ps (spN X.K c.cm C ns m F)) (hr : Room (k + 1) X.A) (hx : L2N.Takes X c.Wx) (hg : L2.Gl X x) (hm : X.mg x = some (.ref C)) (hb : Binds X.K fd ps ds) (hd : Vals dvs ds)
    (hdd : ∀ {H N ph}, RepL X.K c.cm H N ph dds dvs) (ha : PAX X c (e :: es) fs) (hn : fs.length + dds.length = m := by rfl) (hdb : (x == ("__debug__" : Str)) = false := by decide) (he : starEach (e :: es) X.env = (false, eval e X.env) :: starEach es X.env := by rfl) (hpl : (backTo pos (starEach es X.env)).any (·.1) = false := by rfl) :
    PX X c (.Call (.Name x p) (e :: es) [] pos) (eMake k0 ns (fun ds => F (ds ++ dds)) fs) := by
  refine ⟨fun pins s σ H Q I h => ?_⟩
  obtain ⟨O, ρ, ph, w, h⟩ := h
  have h1 := evs_run h
  refine wpAny_Call_Name_kw (L2.ld_glob I hg hm ?_ hdb)
  refine PySem.W.callWith_K (h₀ := X.base) I.ok.mod.kin M1.kp (L2.thn (ha.run pos pins s σ H _ I ⟨O, ρ, ph, w, h1⟩) fun us s1 ⟨vs, H1, I1, r, ds', ph1, w1, l, rl, h2⟩ => ⟨I1.kIn, ?_⟩) he hpl
  refine run_mk (c := c) M1 G hr hb hd hx I1 r fun a dx ha hdx ne => ?_
  have nph : ph1 ≠ some a := fun z => by
    obtain ⟨vs2, z2⟩ := h2.hand.tr z
    rw [ha] at z2; cases z2
  refine ⟨?_, ⟨H1, O, ph1, a, dx, C⟩, vs ++ dvs, ds' ++ dds, w1, rfl, ⟨ha, hdx, ne, h2.env.tr, nph⟩, rfl, rfl, h2.hand, rl.append hdd, ?_⟩
  · rw [List.length_cons, List.length_append, l, ← (hdd (H := H) (N := fun _ => False) (ph := none)).length, hn]
  · have post := h2.post
    cases ev : F (ds' ++ dds) w1 with
    | bad => simp only [M.bind, ev] at post; exact (show False from post).elim
    | ex k2 es2 zs w2 =>
      simp only [M.bind, ev] at post
      intro σ' H' ph' dd vs' x1 s1 hk hd2 l2 r2
      exact post dd H' ph' vs' x1 s1 hk hd2 l2 r2
    | ok xs w2 =>
      simp only [M.bind, ev] at post
      intro σ' H' ph' vs' x1 s1 hk obj l2 r2
      refine ⟨rfl, post (.ref a) H' ph' x1 s1 hk ?_⟩
      show Rep X.K c.cm _ _ _ _ _
      simp only [Rep]
      refine ⟨a, dx, vs', rfl, fun z => ?_, by rw [hC]; exact obj, l2, r2⟩
      rcases z with z | z
      · obtain ⟨_, u, z2, _⟩ := h2.env.tr a z
        rw [ha] at z2; cases z2
      · obtain ⟨vs3, z2⟩ := hk.tr z
        rw [obj] at z2; cases z2

/-! ### o.f -/
def fldG (f : Str) : List Str → List D → Option D
  | n :: ns, x :: xs => if f = n then some x else fldG f ns xs
  | _, _ => none
def fldO (cs : List Nat) (f : Str) : D → M D
  | .ins k ns xs => if k ∈ cs then (match fldG f ns xs with | some d => M.ret d | none => M.fail) else M.fail
  | _ => M.fail
theorem fld_get {K : PySem.W.Frag} {cm : Nat → Addr} {H : Hp} {N : NS} {ph : Option Addr} {f : Str} {d : D} : ∀ (ns : List Str) (xs : List D) (vs : List V), RepL K cm H N ph xs vs → fldG f ns xs = some d → ∃ v, (ns.zip vs).lookup f = some v ∧ Rep K cm H N ph d v
  | [], _, _, _, h => by cases h
  | _ :: _, [], _, _, h => by cases h
  | n :: ns, x :: xs, vs, r, h => by
    obtain ⟨v, vs', rfl, r1, r2⟩ := r.uncons
    unfold fldG at h
    by_cases e : f = n
    · rw [if_pos e] at h
      cases h
      exact ⟨v, by rw [List.zip_cons_cons, List.lookup_cons, beq_iff_eq.mpr e], r1⟩
    · rw [if_neg e] at h
      obtain ⟨u, l, r3⟩ := fld_get ns xs vs' r2 h
      exact ⟨u, by rw [List.zip_cons_cons, List.lookup_cons, beq_eq_false_iff_ne.mpr e]; exact l, r3⟩
theorem px_fldO {f : Str} (cs : List Nat) (hc : ∀ k ∈ cs, L2.Cls X.K (c.cm k) ∧ L2.NoAttr X.K (c.cm k) f) (he : PX X c e fe) (hb : attributeBase e f X.env (eval e X.env) = eval e X.env := by rfl) : PX X c (.Attribute e f pos) (eUn (fldO cs f) fe) :=
  PE.to (L2.pe_fld he hb) fun σ H Q ⟨O, ρ, ph, w, h⟩ => ⟨O, ρ, ph, w, h.bind.imp fun v H1 ⟨d, ph1, w1, e1, s1, r1, h1⟩ => by
    cases d with
    | ins k ns xs =>
      unfold fldO at h1
      by_cases hk : k ∈ cs
      · simp only [if_pos hk] at h1
        cases hf : fldG f ns xs with
        | none => rw [hf] at h1; exact h1.no
        | some d =>
          rw [hf] at h1
          simp only [Rep] at r1
          obtain ⟨a, dx, vs, rfl, _, t, _, rl⟩ := r1
          obtain ⟨u, l, ru⟩ := fld_get ns xs vs rl hf
          exact ⟨a, _, dx, _, u, rfl, t, (hc k hk).1, (hc k hk).2, l, h1.ret ru⟩
      · simp only [if_neg hk] at h1; exact h1.no
    | _ => exact h1.no⟩

/-! ### isinstance(e, C) -/
/-- what the written part says of a class, for isinstance -/
structure ObC (K : PySem.W.Frag) (C : Addr) : Prop where
  cl : L2.Cls K C
  ha : PySem.W.findIn K (.ref C) "__class__" = some (some (.builtin "object.__class__"))
  hn : PySem.W.specialIn K (.builtin "object.__class__") "__get__" = some (some (.builtin "getset_descriptor.__get__"))
  ht : PySem.W.takesIn K (.builtin "object.__class__") = some true
  hm : PySem.W.mroIn K C (.type "object") = some true
  ic : PySem.W.isClsIn K C = true
  ty : PySem.W.typeIn K (.ref C) = some (.type "type")
def isiO (cs : List Nat) (k0 : Nat) : D → M D
  | .ins k _ _ => if k ∈ cs then M.ret (.bl (k == k0)) else M.fail
  | d => match d.tyNm with
    | some _ => M.ret (.bl false)
    | none => M.fail
theorem kit_own {K : PySem.W.Frag} {C : Addr} {t : Value} {b : Bool} (o : ObC K C) (ne : (t == Value.ref C) = false) (h : PySem.W.subIn K t (.ref C) = some b) : PySem.W.kitOne K t (.ref C) = some b := by
  unfold PySem.W.kitOne
  rw [if_neg (by rw [ne]; simp)]
  show (if ((PySem.W.clsIn K C).isSome && PySem.W.typeIn K (.ref C) == some (.type "type")) = true then PySem.W.subIn K t (.ref C) else none) = some b
  have i1 : (PySem.W.clsIn K C).isSome = true := o.ic
  rw [i1, o.ty, if_pos (by simp), h]
theorem kit_self {K : PySem.W.Frag} {C : Addr} : PySem.W.kitOne K (.ref C) (.ref C) = some true := by
  unfold PySem.W.kitOne
  rw [if_pos (by simp)]
theorem px_isiO {x : Str} {p p2 : Pos} (cs : List Nat) (k0 : Nat) (hk0 : k0 ∈ cs) (ob : ∀ k ∈ cs, ObC X.K (c.cm k)) (sub : ∀ k ∈ cs, k ≠ k0 → PySem.W.subIn X.K (.ref (c.cm k)) (.ref (c.cm k0)) = some false ∧ c.cm k ≠ c.cm k0)
    (hg : L2.Gl X "isinstance") (hm : X.mg "isinstance" = none) (hgC : L2.Gl X x) (hmC : X.mg x = some (.ref (c.cm k0))) (he : PX X c e fe) (hdC : (x == ("__debug__" : Str)) = false := by decide)
    (hv : bootBuiltins "isinstance" = some (.builtin "isinstance") := by decide +kernel) (hs : starEach (e :: [.Name x p2]) X.env = (false, eval e X.env) :: starEach [.Name x p2] X.env := by rfl) (hpl : (backTo pos (starEach [.Name x p2] X.env)).any (·.1) = false := by rfl) :
    PX X c (.Call (.Name "isinstance" p) (e :: [.Name x p2]) [] pos) (eUn (isiO cs k0) fe) :=
  PE.to (L2.pe_callB L2.call_isi hg hm hv (L2.pa_cons he (L2.pa_cons (L2.pe_glob (v := .ref (c.cm k0)) hgC hmC rfl hdC) L2.pa_nil (by rfl)) hs) (by decide) (by decide) hs hpl) fun σ H Q ⟨O, ρ, ph, w, h⟩ => ⟨O, ρ, ph, w, h.bind.imp fun v H1 ⟨d, ph1, w1, e1, s1, r1, h1⟩ => by
    have other : ∀ n, d.tyNm = some n → PySem.W.subIn X.K (.type n) (.ref (c.cm k0)) = some false → Run X.K c.cm c.xa O (relV X.K c.cm O) c.Wx ρ σ ph1 H1 w1 (M.ret (.bl false)) Q → L2.rIsi X.K [v, .ref (c.cm k0)] H1 Q := fun n en hsub h2 =>
      ⟨v, .ref (c.cm k0), .type n, .ref (c.cm k0), false, rfl, .own _, tyX_of h1.hand r1 en, kit_own (ob k0 hk0) rfl hsub, h2.ret (b := .bl false) (by simp [Rep])⟩
    cases d with
    | ins k ns xs =>
      unfold isiO at h1
      by_cases hk : k ∈ cs
      · simp only [if_pos hk] at h1
        have r0 := r1
        simp only [Rep] at r0
        obtain ⟨a, dx, vs, rfl, _, t, _⟩ := r0
        have o := ob k hk
        refine ⟨.ref a, .ref (c.cm k0), .ref (c.cm k), .ref (c.cm k0), k == k0, rfl, .own _, .base (.ins t o.cl o.ha o.hn o.ht o.hm), ?_, h1.ret (b := .bl (k == k0)) (by simp [Rep])⟩
        by_cases hkk : k = k0
        · subst hkk
          rw [beq_self_eq_true]
          exact kit_self
        · obtain ⟨q1, q2⟩ := sub k hk hkk
          rw [beq_eq_false_iff_ne.mpr hkk]
          refine kit_own (ob k0 hk0) (beq_eq_false_iff_ne.mpr fun z => q2 ?_) q1
          injection z
      · simp only [if_neg hk] at h1; exact h1.no
    | non => exact other _ rfl rfl h1
    | bl _ => exact other _ rfl rfl h1
    | int _ => exact other _ rfl rfl h1
    | str _ => exact other _ rfl rfl h1
    | tup _ => exact other _ rfl rfl h1
    | lst _ => exact other _ rfl rfl h1
    | frz _ => exact other _ rfl rfl h1
    | hand => exact other _ rfl rfl h1⟩
end
end FL

/-! F28: words for the printed derivations of classes. -/
namespace FL
open PySem
open L2 (V Hp HO Cx Inv VK XK TE TT TA TS TI TG PE PT PA PS PSs PI PG Ends WX RelV Vals Rd upd upd_same upd_ne ne_of_none EP TP AP OpR R2 CallR FnOk Room Binds)
section
variable {P : Program} {w : World} {K : PySem.W.Frag} {mg : Str → Option Value} {base : Heap} {cm : Nat → Addr}
/-- the class at C holds, under the name n, the def of the statement st -/
structure MethAt (K : PySem.W.Frag) (C : Addr) (n qual : Str) (st : Stmt) (dvs : List V) (f : Addr) (fd : FuncData) : Prop where
  at_ : PySem.W.findIn K (.ref C) n = some (some (.ref f))
  fn : PySem.W.isFn K (.ref f) = true
  F : L2.FunD K n qual (L2.defArgs st) (L2.defBody st) (L2.defScope st) dvs [] f fd
theorem meth_at {C : Addr} {n qual : Str} {st : Stmt} {f : Addr} {oc kV doc pm cdv ct : Value} {od an : Option Addr} {osl : Array (Option Value)} (a : PySem.W.findIn K (.ref C) n = some (some (.ref f))) (ty : PySem.W.typeIn K (.ref f) = some (.type "function"))
    (l : K.lookup f = some ⟨oc, od, .func (PySem.W.fnOf n qual (L2.defArgs st) (L2.defBody st) (L2.defScope st) .none kV doc pm an cdv ct), osl⟩) (c : PySem.W.codeIn K cdv qual = true) (k : PySem.W.keepIn K (.ref f) = true) : ∃ fd, MethAt K C n qual st [] f fd :=
  ⟨_, a, by unfold PySem.W.isFn; rw [ty]; simp, ⟨⟨oc, od, .none, kV, doc, pm, an, cdv, ct, osl, rfl, l, c, .inl ⟨rfl, rfl⟩, .inl rfl⟩, k⟩⟩
theorem meth_atD {C : Addr} {n qual : Str} {st : Stmt} {f T : Addr} {oc kV doc pm cdv ct : Value} {od an : Option Addr} {osl : Array (Option Value)} {o : Obj} {its : List Value} {m : Nat} {dvs : List V} (a : PySem.W.findIn K (.ref C) n = some (some (.ref f))) (ty : PySem.W.typeIn K (.ref f) = some (.type "function"))
    (l : K.lookup f = some ⟨oc, od, .func (PySem.W.fnOf n qual (L2.defArgs st) (L2.defBody st) (L2.defScope st) (.ref T) kV doc pm an cdv ct), osl⟩) (c : PySem.W.codeIn K cdv qual = true) (k : PySem.W.keepIn K (.ref f) = true)
    (lT : K.lookup T = some o) (dT : o.data = .seq its.toArray m) (v : Vals dvs its) (ne : dvs ≠ []) : ∃ fd, MethAt K C n qual st dvs f fd :=
  ⟨_, a, by unfold PySem.W.isFn; rw [ty]; simp, ⟨⟨oc, od, .ref T, kV, doc, pm, an, cdv, ct, osl, rfl, l, c, .inr ⟨ne, T, o, its, m, rfl, lT, dT, v⟩, .inl rfl⟩, k⟩⟩
/-- classes with unlike methods are two -/
theorem cls_ne {C C' : Addr} {n q q' : Str} {st st' : Stmt} {dvs dvs' : List V} (h : ∃ f fd, MethAt K C n q st dvs f fd) (h' : ∃ f fd, MethAt K C' n q' st' dvs' f fd) (ne : q ≠ q') : C ≠ C' := fun e => by
  obtain ⟨f, fd, a, _, F⟩ := h
  obtain ⟨f', fd', a', _, F'⟩ := h'
  subst e
  rw [a] at a'
  cases a'
  obtain ⟨oc, od, dV, kV, doc, pm, an, cdv, ct, osl, e1, l1, _⟩ := F.ex
  obtain ⟨oc', od', dV', kV', doc', pm', an', cdv', ct', osl', e2, l2, _⟩ := F'.ex
  rw [l1] at l2
  simp only [Option.some.injEq, Obj.mk.injEq, Data.func.injEq] at l2
  have e3 := l2.2.2.1
  rw [e1, e2] at e3
  exact ne (congrArg FuncData.qualname e3)
/-- the class x, number k0, may be made: m values; bs: the tails of defaults -/
structure HasN (P : Program) (w : World) (K : PySem.W.Frag) (mg : Str → Option Value) (base : Heap) (cm : Nat → Addr) (x : Str) (k0 lvl : Nat) (ns : List Str) (bs : List (List D)) (m : Nat) (F : List D → M (List D)) : Prop where
  ex : ∃ f fd ps, L2.Mk K (cm k0) f ∧ mg x = some (.ref (cm k0)) ∧ FnOk P w K mg base (L2N.CX P w) lvl f fd ps (spN K cm (cm k0) ns m F) ∧ ∀ dds, dds ∈ bs → ∃ ds dvs, Binds K fd ps ds ∧ Vals dvs ds ∧ ∀ {H N ph}, RepL K cm H N ph dds dvs
theorem hasN_of {x qual : Str} {k0 k m n : Nat} {st : Stmt} {N ps ns : List Str} {b : SF} {es : List EF} (mk : PySem.W.makesIn K (cm k0) = true) (kp : PySem.W.keepIn K (.ref (cm k0)) = true) (hm : mg x = some (.ref (cm k0))) (h : ∃ f fd, MethAt K (cm k0) "__init__" qual st [] f fd)
    (S : L2.FnScope N ps (L2.defScope st)) (hps : ps.length = m + 1) (hN : N.length = n) (hn : m + 1 ≤ n)
    (hb : ∀ (kV doc pm : Value) (an : Option Addr) (cdv ct : Value) (us : List Value), us.length = ps.length → bindArgs (PySem.W.fnOf "__init__" qual (L2.defArgs st) (L2.defBody st) (L2.defScope st) .none kV doc pm an cdv ct) ⟨us, []⟩ = pure (ps.zip us))
    (body : ∀ (f : Addr) (cdv : Value) (A : Around) (outer : List PySem.Env) (s : Shared) (H : Hp) (E : XK) (q : MkQ), q.C = cm k0 → q.Ok K cm → Room k (A.deeper (PyProof.Rows.envOfC qual (L2.defScope st) s.heap.objs.size f cdv)) →
      PSs (L2.cxOf (L2N.CX P w) P w K mg base N qual (L2.defScope st) f cdv A outer s H E) (L2.defBody st) (tPre K cm (some (q.a, 0, q.dx)) q ns (fun cls d _ H' => E cls d H') b es)) :
    HasN P w K mg base cm x k0 (k + 1) ns [[]] m (initF n b es) := by
  obtain ⟨f, fd, a, fn, F⟩ := h
  subst hN
  exact ⟨f, fd, ps, ⟨mk, a, fn, kp⟩, hm, init_ok F S hps hn fun cdv A outer s H E q hC ok hr => body f cdv A outer s H E q hC ok hr, fun dds hd => by
    rw [List.mem_singleton.mp hd]
    exact ⟨[], [], F.bindsN hb, .nil, RepL.nil⟩⟩
theorem hasN_ofD {x qual : Str} {k0 k m n : Nat} {st : Stmt} {dvs : List V} {dds : List D} {bs : List (List D)} {N ps ns : List Str} {b : SF} {es : List EF} (mk : PySem.W.makesIn K (cm k0) = true) (kp : PySem.W.keepIn K (.ref (cm k0)) = true) (hm : mg x = some (.ref (cm k0))) (h : ∃ f fd, MethAt K (cm k0) "__init__" qual st dvs f fd)
    (S : L2.FnScope N ps (L2.defScope st)) (hps : ps.length = m + 1) (hN : N.length = n) (hn : m + 1 ≤ n) (ne : dvs ≠ []) (hdd : ∀ {H N ph}, RepL K cm H N ph dds dvs)
    (hb : ∀ e, e ∈ bs → ∃ n j, e = dds.drop j ∧ n + (dvs.length - j) = ps.length ∧ ∀ (T : Addr) (kV doc pm : Value) (an : Option Addr) (cdv ct : Value) (us its : List Value), us.length = n → its.length = dvs.length →
      ∃ k, bindArgs (PySem.W.fnOf "__init__" qual (L2.defArgs st) (L2.defBody st) (L2.defScope st) (.ref T) kV doc pm an cdv ct) ⟨us, []⟩ = seqItems? (.ref T) >>= k ∧ k (some its.toArray) = pure (ps.zip (us ++ its.drop j)))
    (body : ∀ (f : Addr) (cdv : Value) (A : Around) (outer : List PySem.Env) (s : Shared) (H : Hp) (E : XK) (q : MkQ), q.C = cm k0 → q.Ok K cm → Room k (A.deeper (PyProof.Rows.envOfC qual (L2.defScope st) s.heap.objs.size f cdv)) →
      PSs (L2.cxOf (L2N.CX P w) P w K mg base N qual (L2.defScope st) f cdv A outer s H E) (L2.defBody st) (tPre K cm (some (q.a, 0, q.dx)) q ns (fun cls d _ H' => E cls d H') b es)) :
    HasN P w K mg base cm x k0 (k + 1) ns bs m (initF n b es) := by
  obtain ⟨f, fd, a, fn, F⟩ := h
  subst hN
  refine ⟨f, fd, ps, ⟨mk, a, fn, kp⟩, hm, init_ok F S hps hn fun cdv A outer s H E q hC ok hr => body f cdv A outer s H E q hC ok hr, fun e he => ?_⟩
  obtain ⟨n1, j, rfl, hn1, q⟩ := hb e he
  obtain ⟨ds, vd, hbi⟩ := F.binds1 n1 j ne hn1 q
  exact ⟨ds, _, hbi, vd, RepL.drop j hdd⟩
/-- the method n of the class number k0 -/
structure HasM (P : Program) (w : World) (K : PySem.W.Frag) (mg : Str → Option Value) (base : Heap) (cm : Nat → Addr) (n : Str) (k0 lvl m : Nat) (F : List D → M D) : Prop where
  ex : ∃ f fd ps, FnOk P w K mg base (L2N.CX P w) lvl f fd ps (spX K cm m F) ∧ PySem.W.findIn K (.ref (cm k0)) n = some (some (.ref f)) ∧ PySem.W.isFn K (.ref f) = true ∧ Binds K fd ps [] ∧ PySem.W.keepIn K (.ref f) = true
theorem hasM_of {nm qual : Str} {k0 k m n : Nat} {st : Stmt} {N ps : List Str} {b : SF} (h : ∃ f fd, MethAt K (cm k0) nm qual st [] f fd) (S : L2.FnScope N ps (L2.defScope st)) (hps : ps.length = m) (hN : N.length = n) (hmn : m ≤ n)
    (hb : ∀ (kV doc pm : Value) (an : Option Addr) (cdv ct : Value) (us : List Value), us.length = ps.length → bindArgs (PySem.W.fnOf nm qual (L2.defArgs st) (L2.defBody st) (L2.defScope st) .none kV doc pm an cdv ct) ⟨us, []⟩ = pure (ps.zip us))
    (body : ∀ (f : Addr) (cdv : Value) (A : Around) (outer : List PySem.Env) (s : Shared) (H : Hp) (E : XK) (q : Sq), Room k (A.deeper (PyProof.Rows.envOfC qual (L2.defScope st) s.heap.objs.size f cdv)) →
      PSSX (L2.cxOf (L2N.CX P w) P w K mg base N qual (L2.defScope st) f cdv A outer s H E) ⟨cm, none, fun cls d _ H' => E cls d H'⟩ q (L2.defBody st) b) :
    HasM P w K mg base cm nm k0 (k + 1) m (callF n b) := by
  obtain ⟨f, fd, a, fn, F⟩ := h
  subst hps hN
  exact ⟨f, fd, ps, fn_ok F S hmn fun cdv A outer s H E q hr => body f cdv A outer s H E q hr, a, fn, F.bindsN hb, F.kp⟩
/-! the table of the own __eq__s -/
def noTab : Tab := fun _ => none
def putTab (T : Tab) (k0 : Nat) (F : List D → M D) : Tab := fun k => if k = k0 then some F else T k
theorem eqC_no : EqC P w K mg base cm noTab 0 := ⟨fun _ _ h => (nomatch h), fun _ _ h => (nomatch h), fun _ _ h => (nomatch h), fun _ h => (nomatch h)⟩
theorem FnOk.up {j k : Nat} {f : Addr} {fd : FuncData} {ps : List Str} {sp : L2.Sp} (F : FnOk P w K mg base (L2N.CX P w) j f fd ps sp) (h : j ≤ k) : FnOk P w K mg base (L2N.CX P w) k f fd ps sp := F.mono h
theorem eqC_put {T : Tab} {lv lv' k0 : Nat} {F : List D → M D} (C : EqC P w K mg base cm T lv) (G : HasM P w K mg base cm "__eq__" k0 lv' 2 F) (hl : lv ≤ lv') (hT : ∀ k, (T k).isSome = true → cm k ≠ cm k0 ∧ PySem.W.subIn K (.ref (cm k)) (.ref (cm k0)) = some false ∧ PySem.W.subIn K (.ref (cm k0)) (.ref (cm k)) = some false)
    (hm : PySem.W.mroIn K (cm k0) (.type "object") = some true) (hn : PySem.W.findIn K (.ref (cm k0)) "__ne__" = some (some (.builtin "object.__ne__"))) : EqC P w K mg base cm (putTab T k0 F) lv' := by
  have cs : ∀ k, (putTab T k0 F k).isSome = true → k = k0 ∨ (k ≠ k0 ∧ (T k).isSome = true) := fun k h => by
    by_cases e : k = k0
    · exact .inl e
    · unfold putTab at h
      rw [if_neg e] at h
      exact .inr ⟨e, h⟩
  have nf : ∀ a b : Addr, PySem.W.subIn K (.ref b) (.ref a) = some false → PySem.W.notFirst K a (.ref b) = true := fun a b h => by
    unfold PySem.W.notFirst
    rw [h]; simp
  refine ⟨fun i j hi hj e => ?_, fun k F' h => ?_, fun k j hk hj => ?_, fun k hk => ?_⟩
  · rcases cs i hi with rfl | ⟨n1, h1⟩ <;> rcases cs j hj with rfl | ⟨n2, h2⟩
    · rfl
    · exact absurd e.symm (hT j h2).1
    · exact absurd e (hT i h1).1
    · exact C.inj i j h1 h2 e
  · unfold putTab at h
    by_cases e : k = k0
    · rw [if_pos e] at h
      cases h
      subst e
      obtain ⟨f, fd, ps, g1, g2, g3, g4, _⟩ := G.ex
      exact ⟨f, fd, ps, g1, g2, g3, g4⟩
    · rw [if_neg e] at h
      obtain ⟨f, fd, ps, g1, g2, g3, g4⟩ := C.own k F' h
      exact ⟨f, fd, ps, g1.mono hl, g2, g3, g4⟩
  · rcases cs k hk with rfl | ⟨n1, h1⟩ <;> rcases cs j hj with rfl | ⟨n2, h2⟩
    · unfold PySem.W.notFirst; simp
    · exact nf _ _ (hT j h2).2.1
    · exact nf _ _ (hT k h1).2.2
    · exact C.sub k j h1 h2
  · rcases cs k hk with rfl | ⟨n1, h1⟩
    · exact ⟨hm, hn⟩
    · exact C.ne k h1
end
section
variable {X : Cx} {c : Cfg} {pos : Pos} {e : Expr} {fe : EF} {es : List Expr} {fs : List EF}
/-- C(e, ..) -/
theorem px_hasN {x : Str} {p : Pos} {k k0 m : Nat} {ns : List Str} {bs : List (List D)} {F : List D → M (List D)} (dds : List D) (G : HasN X.prog X.w X.K X.mg X.base c.cm x k0 k ns bs m F) (hr : Room (k + 1) X.A) (hx : L2N.Takes X c.Wx) (hg : L2.Gl X x) (ha : PAX X c (e :: es) fs)
    (hb : dds ∈ bs := by simp) (hn : fs.length + dds.length = m := by rfl) (hdb : (x == ("__debug__" : Str)) = false := by decide) (he : starEach (e :: es) X.env = (false, eval e X.env) :: starEach es X.env := by rfl) (hpl : (backTo pos (starEach es X.env)).any (·.1) = false := by rfl) :
    PX X c (.Call (.Name x p) (e :: es) [] pos) (eMake k0 ns (fun ds => F (ds ++ dds)) fs) := by
  obtain ⟨f, fd, ps, M1, hm, hF, hB⟩ := G.ex
  obtain ⟨ds, dvs, b1, b2, b3⟩ := hB dds hb
  exact px_make M1 rfl hF hr hx hg hm b1 b2 b3 ha hn hdb he hpl
def lenI : D → M D
  | .int i => if 0 ≤ i ∧ i < 1000000 then M.ret (.int i) else M.fail
  | _ => M.fail
/-- len(e) of an object by its own __len__ -/
def lenO (k0 : Nat) (F : List D → M D) : D → M D
  | .ins k ns xs => if k = k0 then M.bind (noEx (F [.ins k ns xs])) lenI else M.fail
  | _ => M.fail
def rLenO (K : PySem.W.Frag) (cm : Nat → Addr) (f : D → M D) : List V → Hp → VK → Prop := fun xs H Q => ∃ x O ph w w' d r, xs = [x] ∧ OTr H O ph ∧ HandOk K cm H O ph w ∧ Rep K cm H (OO O ph) ph d x ∧ f d w = .ok (.int r) w' ∧
  ∀ H' ph', Ext ph H H' → PhS H ph ph' → HandOk K cm H' O ph' w' → Q (.int r) H'
def lenL (k0 : Nat) (F : List D → M D) : List D → M D
  | [d] => fun w => (match lenO k0 F d w with | .ok (.int i) w' => .ok (.int i) w' | _ => .bad)
  | _ => M.fail
theorem lenO_inv {k0 : Nat} {F : List D → M D} {d : D} {i : Int} {w w' : Wd} (h : lenO k0 F d w = .ok (.int i) w') : (∃ ns xs, d = .ins k0 ns xs) ∧ F [d] w = .ok (.int i) w' ∧ 0 ≤ i ∧ i < 1000000 := by
  cases d with
  | ins k ns xs =>
    have h : (if k = k0 then M.bind (noEx (F [.ins k ns xs])) lenI else M.fail) w = .ok (.int i) w' := h
    by_cases hk : k = k0
    · subst hk
      rw [if_pos rfl] at h
      obtain ⟨a, w1, e1, e2⟩ := bind_inv h
      have e3 : F [.ins k ns xs] w = .ok a w1 := by
        unfold noEx at e1
        split at e1
        · rename_i z; rw [z]; exact e1
        · cases e1
      cases a with
      | int j =>
        have e2 : (if 0 ≤ j ∧ j < 1000000 then M.ret (D.int j) else M.fail) w1 = .ok (.int i) w' := e2
        by_cases hj : 0 ≤ j ∧ j < 1000000
        · rw [if_pos hj] at e2
          cases e2
          exact ⟨⟨ns, xs, rfl⟩, e3, hj.1, hj.2⟩
        · rw [if_neg hj] at e2; cases e2
      | _ => cases e2
    · rw [if_neg hk] at h; cases h
  | _ => cases h
theorem lenL_ok {K : PySem.W.Frag} {cm : Nat → Addr} {k0 : Nat} {F : List D → M D} : OpL K cm (lenL k0 F) (rLenO K cm (lenO k0 F)) := by
  intro xa O Wx ρ σ ph H w Q ds vs r h
  match ds, h with
  | [d], h =>
    obtain ⟨v, vs', rfl, r1, r2⟩ := r.uncons
    cases r2.unnil
    have hp := h.post
    unfold lenL at hp
    simp only at hp
    split at hp
    · rename_i i w' e
      refine ⟨v, O, ph, w, w', d, i, rfl, h.env.tr, h.hand, r1, e, fun H' ph' x s hk => hp (.int i) H' ph' x s hk ?_⟩
      show Rep K cm _ _ _ _ _
      simp only [Rep]
    · exact (show False from hp).elim
  | [], h => exact h.no
  | _ :: _ :: _, h => exact h.no
theorem call_lenO {cm : Nat → Addr} {k0 lv : Nat} {F : List D → M D} (G : HasM X.prog X.w X.K X.mg X.base cm "__len__" k0 lv 1 F) (room : Room (lv + 1) X.A) : CallR X (.builtin "len") (rLenO X.K cm (lenO k0 F)) := by
  intro pins s σ H xs us Q I r h
  obtain ⟨x, O, ph, w, w', d, i, rfl, tr, hand, r1, hf, post⟩ := h
  obtain ⟨⟨ns, fs, rfl⟩, hF, i0, i1⟩ := lenO_inv hf
  obtain ⟨u, rfl, ru⟩ := L2.vals1 r
  have r0 := r1
  simp only [Rep] at r0
  obtain ⟨a, dx, vs, rfl, _, t, _⟩ := r0
  cases (show u = Value.ref a from ru)
  obtain ⟨f, fd, ps, g1, g2, g3, g4, _⟩ := G.ex
  obtain ⟨mA, J, _⟩ := L2.ins_get I.hok t
  obtain ⟨od, J, _⟩ := J.look
  obtain ⟨mm, hFr⟩ := I.fr
  have sp : spX X.K cm 1 F [.ref a] H (fun z H' => z = .int i ∧ ∃ ph', Ext ph H H' ∧ PhS H ph ph' ∧ HandOk X.K cm H' O ph' w') (fun _ _ _ => False) := by
    refine ⟨rfl, O, [.ins k0 ns fs], ph, w, tr, hand, RepL.one r1, ?_⟩
    rw [hF]
    intro z H' ph' x1 s1 hk rz
    exact ⟨int_of rz, ph', x1, s1, hk⟩
  have hl := g1.len _ _ _ _ sp
  have bind : BindsTo s fd ⟨[.ref a], []⟩ (ps.zip [.ref a]) := by
    have := g4 s [.ref a] I.kIn (by simpa using hl)
    simpa using this
  have q := I.env0
  refine PySem.W.len_K hFr I.ok.mod.kin J g2 g3 (wpAny_call (codeAny_mono (g1.run X.A.in1 X.stack s H ⟨[.ref a], []⟩ [.ref a] [.ref a] _ _ room.in1 ⟨q.frames, q.mod, q.bs, q.bsz, q.funs, q.frf, q.hok, q.bare⟩ bind (.cons rfl .nil) sp) fun res s' q => ?_))
  match res, q with
  | .error e, q => exact (cx_none q).elim
  | .ok .next, q => exact (show False from q).elim
  | .ok .brk, q => exact (show False from q).elim
  | .ok .cont, q => exact (show False from q).elim
  | .ok (.ret z), q =>
    obtain ⟨z2, H', I', rz, ez, ph', x1, s1, hk⟩ := I.after q
    subst ez
    obtain ⟨tk, rfl⟩ := (show ∃ tk, z = Value.int i tk from rz)
    obtain ⟨hh, g, dd, tt, os⟩ := s'
    exact ⟨⟨i0, by omega⟩, .int i, H', I'.tok _, ⟨_, rfl⟩, post H' ph' x1 s1 hk⟩
theorem px_lenO {p : Pos} {k0 lv : Nat} {F : List D → M D} (G : HasM X.prog X.w X.K X.mg X.base c.cm "__len__" k0 lv 1 F) (room : Room (lv + 1) X.A) (hg : L2.Gl X "len") (hm : X.mg "len" = none) (he : PX X c e fe) (hs : starEach [e] X.env = (false, eval e X.env) :: starEach [] X.env := by rfl) :
    PX X c (.Call (.Name "len" p) [e] [] pos) (eCall (lenL k0 F) [fe]) := px_callB (call_lenO G room) lenL_ok hg hm bt_len (pax_cons he pax_nil hs) (he := hs)
end
end FL

/-! F29: all classes of a text at once. -/
namespace FL
open PySem
open L2 (V Hp HO Cx Inv VK XK TE TT TA TS TI TG PE PT PA PS PSs PI PG Ends WX RelV Vals Rd upd upd_same upd_ne ne_of_none EP TP AP OpR R2 CallR FnOk Room Binds)
/-- what the written part says of a plain class, by one look; fs: its fields -/
def clsB (K : PySem.W.Frag) (C : Addr) (fs : List Str) : Bool := PySem.W.plainGet K C Str.empty && (PySem.W.hasDictIn K C && (PySem.W.plainOver K C && ((PySem.W.findIn K (.ref C) "__setattr__" == some (some (.builtin "object.__setattr__"))) &&
  ((PySem.W.findIn K (.ref C) "__class__" == some (some (.builtin "object.__class__"))) && ((PySem.W.typeIn K (.ref C) == some (.type "type")) && (PySem.W.makesIn K C && (PySem.W.keepIn K (.ref C) && ((PySem.W.findIn K (.ref C) "__ne__" == some (some (.builtin "object.__ne__"))) &&
  (fs.all (fun f => PySem.W.findIn K (.ref C) f == some none) && (PySem.W.clsIn K C).any (fun cd => cd.mro == [.ref C, .type "object"]))))))))))
def fnB (K : PySem.W.Frag) (f : Addr) (cdv : Value) (q : Str) : Bool := (PySem.W.typeIn K (.ref f) == some (.type "function")) && (PySem.W.codeIn K cdv q && PySem.W.keepIn K (.ref f))
structure ClsF (K : PySem.W.Frag) (C : Addr) (fs : List Str) : Prop where
  cl : L2.Cls K C
  ha : PySem.W.findIn K (.ref C) "__class__" = some (some (.builtin "object.__class__"))
  ty : PySem.W.typeIn K (.ref C) = some (.type "type")
  makes : PySem.W.makesIn K C = true
  kp : PySem.W.keepIn K (.ref C) = true
  ne : PySem.W.findIn K (.ref C) "__ne__" = some (some (.builtin "object.__ne__"))
  no : ∀ f ∈ fs, L2.NoAttr K C f
  mro : ∃ cd, PySem.W.clsIn K C = some cd ∧ cd.mro = [.ref C, .type "object"]
section
variable {K : PySem.W.Frag} {C : Addr} {fs : List Str}
theorem clsF_of (h : clsB K C fs = true) : ClsF K C fs := by
  unfold clsB at h
  simp only [Bool.and_eq_true] at h
  obtain ⟨h1, h2, h3, h4, h5, h6, h7, h8, h9, h10, h11⟩ := h
  refine ⟨⟨h1, h2, h3, beq_iff_eq.mp h4⟩, beq_iff_eq.mp h5, beq_iff_eq.mp h6, h7, h8, beq_iff_eq.mp h9, fun f hf => ?_, ?_⟩
  · exact beq_iff_eq.mp (List.all_eq_true.mp h10 f hf)
  · cases e : PySem.W.clsIn K C with
    | none => rw [e] at h11; cases h11
    | some cd => rw [e] at h11; exact ⟨cd, rfl, beq_iff_eq.mp h11⟩
theorem ClsF.sub (h : ClsF K C fs) {C' : Addr} (n : C' ≠ C) : PySem.W.subIn K (.ref C) (.ref C') = some false := by
  obtain ⟨cd, e1, e2⟩ := h.mro
  show (PySem.W.clsIn K C).bind _ = _
  rw [e1]
  show (if cd.mro.isEmpty then none else some (cd.mro.contains (.ref C'))) = some false
  rw [e2]
  have : (Value.ref C' == Value.ref C) = false := beq_eq_false_iff_ne.mpr fun z => n (by injection z)
  have t2 : (Value.ref C' == Value.type "object") = false := rfl
  simp [List.contains, List.elem, this, t2]
theorem ClsF.obj (h : ClsF K C fs) : PySem.W.mroIn K C (.type "object") = some true := by
  obtain ⟨cd, e1, e2⟩ := h.mro
  show (PySem.W.clsIn K C).bind _ = _
  rw [e1]
  show (if cd.mro.isEmpty then none else some (cd.mro.contains (.type "object"))) = some true
  rw [e2]
  have t2 : (Value.type "object" == Value.ref C) = false := rfl
  simp [List.contains, List.elem, t2]
theorem ClsF.ob (h : ClsF K C fs) (hn : PySem.W.specialIn K (.builtin "object.__class__") "__get__" = some (some (.builtin "getset_descriptor.__get__"))) (ht : PySem.W.takesIn K (.builtin "object.__class__") = some true) : ObC K C :=
  ⟨h.cl, h.ha, hn, ht, h.obj, by obtain ⟨cd, e1, _⟩ := h.mro; unfold PySem.W.isClsIn; rw [e1]; rfl, h.ty⟩
end
theorem meth_atB {K : PySem.W.Frag} {C : Addr} {n qual : Str} {st : Stmt} {f : Addr} {oc kV doc pm cdv ct : Value} {od an : Option Addr} {osl : Array (Option Value)} (a : PySem.W.findIn K (.ref C) n = some (some (.ref f)))
    (l : K.lookup f = some ⟨oc, od, .func (PySem.W.fnOf n qual (L2.defArgs st) (L2.defBody st) (L2.defScope st) .none kV doc pm an cdv ct), osl⟩) (b : fnB K f cdv qual = true) : ∃ fd, MethAt K C n qual st [] f fd := by
  unfold fnB at b
  simp only [Bool.and_eq_true] at b
  exact meth_at a (beq_iff_eq.mp b.1) l b.2.1 b.2.2
theorem meth_atBD {K : PySem.W.Frag} {C : Addr} {n qual : Str} {st : Stmt} {f T : Addr} {oc kV doc pm cdv ct : Value} {od an : Option Addr} {osl : Array (Option Value)} {o : Obj} {its : List Value} {m : Nat} {dvs : List V} (a : PySem.W.findIn K (.ref C) n = some (some (.ref f)))
    (l : K.lookup f = some ⟨oc, od, .func (PySem.W.fnOf n qual (L2.defArgs st) (L2.defBody st) (L2.defScope st) (.ref T) kV doc pm an cdv ct), osl⟩) (b : fnB K f cdv qual = true)
    (lT : K.lookup T = some o) (dT : o.data = .seq its.toArray m) (v : Vals dvs its) (ne : dvs ≠ []) : ∃ fd, MethAt K C n qual st dvs f fd := by
  unfold fnB at b
  simp only [Bool.and_eq_true] at b
  exact meth_atD a (beq_iff_eq.mp b.1) l b.2.1 b.2.2 lT dT v ne
/-- all classes: their numbers cs, their fields, the full names of their __init__s -/
structure AllC (K : PySem.W.Frag) (cm : Nat → Addr) (cs : List Nat) (fs : Nat → List Str) (qs : Nat → Str) : Prop where
  cf : ∀ k ∈ cs, ClsF K (cm k) (fs k)
  init : ∀ k ∈ cs, ∃ st dvs f fd, MethAt K (cm k) "__init__" (qs k) st dvs f fd
  hn : PySem.W.specialIn K (.builtin "object.__class__") "__get__" = some (some (.builtin "getset_descriptor.__get__"))
  ht : PySem.W.takesIn K (.builtin "object.__class__") = some true
  nd : ∀ i ∈ cs, ∀ j ∈ cs, qs i = qs j → i = j
section
variable {P : Program} {w : World} {K : PySem.W.Frag} {mg : Str → Option Value} {base : Heap} {cm : Nat → Addr} {cs : List Nat} {fs : Nat → List Str} {qs : Nat → Str}
theorem AllC.inj (h : AllC K cm cs fs qs) {i j : Nat} (hi : i ∈ cs) (hj : j ∈ cs) (e : cm i = cm j) : i = j := by
  by_cases q : qs i = qs j
  · exact h.nd i hi j hj q
  · obtain ⟨st, dvs, h1⟩ := h.init i hi
    obtain ⟨st', dvs', h2⟩ := h.init j hj
    exact absurd e (cls_ne h1 h2 q)
theorem AllC.ob (h : AllC K cm cs fs qs) : ∀ k ∈ cs, ObC K (cm k) := fun k hk => (h.cf k hk).ob h.hn h.ht
theorem AllC.sub (h : AllC K cm cs fs qs) {k0 : Nat} (h0 : k0 ∈ cs) : ∀ k ∈ cs, k ≠ k0 → PySem.W.subIn K (.ref (cm k)) (.ref (cm k0)) = some false ∧ cm k ≠ cm k0 := fun k hk n =>
  have ne : cm k ≠ cm k0 := fun e => n (h.inj hk h0 e)
  ⟨(h.cf k hk).sub (Ne.symm ne), ne⟩
theorem eqC_all {T : Tab} {lv : Nat} (h : AllC K cm cs fs qs) (hT : ∀ k, (T k).isSome = true → k ∈ cs) (own : ∀ k F, T k = some F → HasM P w K mg base cm "__eq__" k lv 2 F) : EqC P w K mg base cm T lv := by
  refine ⟨fun i j hi hj e => h.inj (hT i hi) (hT j hj) e, fun k F e => ?_, fun k j hk hj => ?_, fun k hk => ⟨(h.cf k (hT k hk)).obj, (h.cf k (hT k hk)).ne⟩⟩
  · obtain ⟨f, fd, ps, g1, g2, g3, g4, _⟩ := (own k F e).ex
    exact ⟨f, fd, ps, g1, g2, g3, g4⟩
  · unfold PySem.W.notFirst
    by_cases e : cm k = cm j
    · rw [e]; simp
    · rw [(h.cf j (hT j hj)).sub e]; simp
end
section
variable {X : Cx} {c : Cfg} {pos : Pos} {e : Expr} {fe : EF} {cs : List Nat} {fs : Nat → List Str} {qs : Nat → Str}
/-- o.f, o of one of the classes ks -/
theorem px_fldA {f : Str} (ks : List Nat) (A : AllC X.K c.cm cs fs qs) (hk : ∀ k ∈ ks, k ∈ cs ∧ f ∈ fs k) (he : PX X c e fe) (hb : attributeBase e f X.env (eval e X.env) = eval e X.env := by rfl) : PX X c (.Attribute e f pos) (eUn (fldO ks f) fe) :=
  px_fldO ks (fun k h => ⟨(A.cf k (hk k h).1).cl, (A.cf k (hk k h).1).no f (hk k h).2⟩) he hb
theorem px_isiA {x : Str} {p p2 : Pos} (k0 : Nat) (A : AllC X.K c.cm cs fs qs) (h0 : k0 ∈ cs) (hg : L2.Gl X "isinstance") (hm : X.mg "isinstance" = none) (hgC : L2.Gl X x) (hmC : X.mg x = some (.ref (c.cm k0))) (he : PX X c e fe) (hdC : (x == ("__debug__" : Str)) = false := by decide)
    (hs : starEach (e :: [.Name x p2]) X.env = (false, eval e X.env) :: starEach [.Name x p2] X.env := by rfl) (hpl : (backTo pos (starEach [.Name x p2] X.env)).any (·.1) = false := by rfl) :
    PX X c (.Call (.Name "isinstance" p) (e :: [.Name x p2]) [] pos) (eUn (isiO cs k0) fe) := px_isiO cs k0 h0 A.ob (A.sub h0) hg hm hgC hmC he hdC (by decide +kernel) hs hpl
end
theorem al_n {P : Nat → Prop} : ∀ k ∈ ([] : List Nat), P k := fun _ h => nomatch h
theorem al_c {P : Nat → Prop} {a : Nat} {l : List Nat} (h : P a) (t : ∀ k ∈ l, P k) : ∀ k ∈ a :: l, P k := fun k hk => by
  rcases List.mem_cons.mp hk with rfl | hk
  · exact h
  · exact t k hk
theorem HasM.up {P : Program} {w : World} {K : PySem.W.Frag} {mg : Str → Option Value} {base : Heap} {cm : Nat → Addr} {n : Str} {k0 l l' m : Nat} {F : List D → M D} (G : HasM P w K mg base cm n k0 l m F) (h : l ≤ l') : HasM P w K mg base cm n k0 l' m F := by
  obtain ⟨f, fd, ps, g1, g2⟩ := G.ex
  exact ⟨f, fd, ps, g1.mono h, g2⟩
/-! a, b, .. = a list -/
def gL (is : List Nat) : GF := fun d ρ => match d with
  | .lst ds => gAll is ds ρ
  | _ => none
def sUnpL (is : List Nat) (e : EF) : SF := fun ρ w => onE (e ρ) ρ w fun d w' => match gL is d ρ with
  | some ρ' => .nx ρ' w'
  | none => .bad
theorem tgx_l {K : PySem.W.Frag} {cm : Nat → Addr} (is : List Nat) : TGX K cm (gL is) (L2.gLst K is.length (gNames is)) is := fun {H N ph d v ρ ρ'} r e => by
  cases d with
  | lst ds =>
    obtain ⟨a, vs, rfl, ⟨_, t⟩, rl⟩ := lst_of r
    obtain ⟨l, ts, e1, ht, hq⟩ := gAll_put is ds vs ρ ρ' rl e
    exact ⟨ts, e1, ht, fun σ Q h => ⟨a, vs, rfl, .inl (.inl t), l, hq σ Q h⟩⟩
  | _ => cases e
theorem psx_unpL {X : Cx} {c : Cfg} {q : Sq} {pos : Pos} {tg e : Expr} {fe : EF} {is : List Nat} (he : PX X c e fe) (hg : PG X tg (L2.gLst X.K is.length (gNames is))) (hs : swapsWithSole [tg] e pos.line X.env = pure false := by rfl) (hw : swappedStores [tg] e X.env = pure none := by rfl)
    (h1 : (assignEach [tg] X.env).map (·.2) = [assign tg X.env] := by rfl) : PSX X c q (.Assign [tg] e pos) (sUnpL is fe) :=
  PS.to (L2.ps_asg he hg hs hw h1) fun D σ H ⟨ρ, ph, w, h, hp⟩ => ⟨_, ρ, ph, w, (onE_run h hp).imp fun v H1 ⟨d, ph1, w1, r, h1, k, hp1⟩ => by
    cases e : gL is d ρ with
    | none => rw [e] at hp1; exact (show False from hp1).elim
    | some ρ' =>
      rw [e] at hp1
      obtain ⟨ts, rfl, ht, hq⟩ := tgx_l is r e
      obtain ⟨h2, k2⟩ := StS.puts ts (fun t m => (ht t m).2) h1
      exact hq σ _ (hp1 _ _ ph1 h2 k2.kp)⟩
end FL

/-! F30: items of a list of the def's own, read and stored; a or b by truth. -/
namespace FL
open PySem
open L2 (V Hp HO Cx Inv VK XK TE TT TA TS TI TG PE PT PA PS PSs PI PG Ends WX RelV Vals Rd upd upd_same upd_ne ne_of_none EP TP AP OpR R2 CallR FnOk Room Binds)
/-! a or b, a and b: the thing itself -/
def eOrT (a b : EF) : EF := fun ρ => M.bind (a ρ) fun x => M.bind (truth x) fun k => if k = true then M.ret x else b ρ
def eAndT (a b : EF) : EF := fun ρ => M.bind (a ρ) fun x => M.bind (truth x) fun k => if k = true then b ρ else M.ret x
section
variable {X : Cx} {c : Cfg} {pos : Pos} {a b : Expr} {fa fb : EF} {rest : List Expr}
theorem truth_bind {K : PySem.W.Frag} {cm : Nat → Addr} {xa O Wx ρ σ ph H w} {d : D} {v : V} {k : Bool → M D} {Q : V → Hp → Prop} (r : Rep K cm H (OO O ph) ph d v)
    (h : Run K cm xa O (relV K cm O) Wx ρ σ ph H w (M.bind (truth d) k) Q) : ∃ t, L2.TruV K v H t ∧ ∃ ph1 w1, Rep K cm H (OO O ph1) ph1 d v ∧ Run K cm xa O (relV K cm O) Wx ρ σ ph1 H w1 (k t) Q := by
  obtain ⟨t, e1, q, ph1, w1, e, s, z, h1⟩ := truth_rep r (h.bind (rel := relB))
  cases z
  exact ⟨_, e1, ph1, w1, Rep.keep (Ext.keep e s) s.m d v r, h1⟩
theorem px_orT (ha : PX X c a fa) (hb : PX X c (.BoolOp .Or (b :: rest) pos) fb) : PX X c (.BoolOp .Or (a :: b :: rest) pos) (eOrT fa fb) :=
  PE.to (L2.pe_orT ha hb) fun σ H Q ⟨O, ρ, ph, w, h⟩ => ⟨O, ρ, ph, w, h.bind.imp fun x H1 ⟨d, ph1, w1, e1, s1, r1, h1⟩ => by
    obtain ⟨t, e2, ph2, w2, r2, h2⟩ := truth_bind r1 h1
    refine ⟨t, e2, ?_⟩
    cases t with
    | true => exact h2.ret (b := x) r2
    | false => exact ⟨O, ρ, ph2, w2, h2⟩⟩
theorem px_andT (ha : PX X c a fa) (hb : PX X c (.BoolOp .And (b :: rest) pos) fb) : PX X c (.BoolOp .And (a :: b :: rest) pos) (eAndT fa fb) :=
  PE.to (L2.pe_andT ha hb) fun σ H Q ⟨O, ρ, ph, w, h⟩ => ⟨O, ρ, ph, w, h.bind.imp fun x H1 ⟨d, ph1, w1, e1, s1, r1, h1⟩ => by
    obtain ⟨t, e2, ph2, w2, r2, h2⟩ := truth_bind r1 h1
    refine ⟨t, e2, ?_⟩
    cases t with
    | false => exact h2.ret (b := x) r2
    | true => exact ⟨O, ρ, ph2, w2, h2⟩⟩
end
/-! x[e], x a list of the def's own -/
def eOwnIx (i : Nat) (k : EF) : EF := fun ρ => match ρ[i]? with
  | some (.own xs) => M.bind (k ρ) (ixL xs)
  | _ => M.fail
section
variable {X : Cx} {c : Cfg} {q : Sq} {pos : Pos} {b : Expr} {fb : EF}
theorem px_ownIx (i : Nat) {x : Str} {p0 : Pos} (hb : PX X c b fb) (hN : X.N[i]? = some x := by rfl) (hv : L2.Vis X.env.scope x := by first | exact Or.inl rfl | exact Or.inr (Or.inl rfl) | exact Or.inr (Or.inr rfl)) (hd : (x == ("__debug__" : Str)) = false := by decide)
    (hcd : (x == ("__classdict__" : Str)) = false := by decide) (hs : L2.PlainIx b := by exact fun _ _ => rfl) : PX X c (.Subscript (.Name x p0) b pos) (eOwnIx i fb) :=
  PE.to (L2.pe_ix L2.ix_seq (L2.pe_var hN hv hd hcd) hb hs) fun σ H Q ⟨O, ρ, ph, w, h⟩ => by
    unfold eOwnIx at h
    cases e : ρ[i]? with
    | none => rw [e] at h; exact h.no
    | some s =>
      rw [e] at h
      cases s with
      | own xs =>
        obtain ⟨p, vs, e1, o, hp, r⟩ := h.env.ownd e
        refine ⟨.ref p, e1, O, ρ, ph, w, h.bind.imp fun y H2 ⟨d, ph1, w1, ex, s1, r1, h1⟩ => ?_⟩
        obtain ⟨p', vs', e1', o', hp', r'⟩ := h1.env.ownd e
        rw [e1] at e1'; cases e1'
        obtain ⟨j, v, e3, e4, q⟩ := ixL_run r' r1 h1
        exact .inl ⟨p, vs', j, v, rfl, e3, .inl (.inl hp'), e4, q⟩
      | _ => exact h.no
/-! x[k] = e, x a list of the def's own -/
def stK (i : Nat) (ρ : Env) : List D → Wd → SR
  | [d, .int j], w => (match ρ[i]? with
    | some (.own xs) => (match ixP xs.length j with
      | some n => .nx (ρ.set i (.own (xs.set n d))) w
      | none => .bad)
    | _ => .bad)
  | _, _ => .bad
theorem stK_cases (i : Nat) (ρ : Env) (xs : List D) (w : Wd) : stK i ρ xs w = .bad ∨ ∃ d j ys n, xs = [d, .int j] ∧ ρ[i]? = some (.own ys) ∧ ixP ys.length j = some n ∧ stK i ρ xs w = .nx (ρ.set i (.own (ys.set n d))) w := by
  unfold stK
  split
  · rename_i d j
    split
    · rename_i ys e
      split
      · rename_i n e2
        exact .inr ⟨d, j, ys, n, rfl, e, e2, rfl⟩
      · exact .inl rfl
    · exact .inl rfl
  · exact .inl rfl
def sItem (i : Nat) (k e : EF) : SF := fun ρ w => match ρ[i]? with
  | some (.own _) => onE (M.bind (e ρ) fun d => M.bind (k ρ) fun j => M.ret [d, j]) ρ w (stK i ρ)
  | _ => .bad
theorem psx_item (i : Nat) {x : Str} {p0 p2 : Pos} {k e : Expr} {fk fe : EF} (he : PX X c e fe) (hk : PX X c k fk)
    (hg : PG X (.Subscript (.Name x p0) k p2) (L2.gSub (L2.tVar i) (tX X.K c.cm c.xa c.Wx fk) L2.rSetL)) (hs : swapsWithSole [.Subscript (.Name x p0) k p2] e pos.line X.env = pure false := by rfl) (hw : swappedStores [.Subscript (.Name x p0) k p2] e X.env = pure none := by rfl)
    (h1 : (assignEach [.Subscript (.Name x p0) k p2] X.env).map (·.2) = [assign (.Subscript (.Name x p0) k p2) X.env] := by rfl) : PSX X c q (.Assign [.Subscript (.Name x p0) k p2] e pos) (sItem i fk fe) :=
  PS.to (L2.ps_asg he hg hs hw h1) fun D σ H ⟨ρ, ph, w, h, hp⟩ => by
    unfold sItem at hp
    cases e0 : ρ[i]? with
    | none => rw [e0] at hp; exact (show False from hp).elim
    | some sl =>
      rw [e0] at hp
      cases sl with
      | own ys =>
        have r0 := onE_run (rel := relL X.K c.cm (OwnS q.O0 ρ σ)) h hp
        refine ⟨_, ρ, ph, w, (Run.bind (rel := relV X.K c.cm (OwnS q.O0 ρ σ)) r0).imp fun v H1 ⟨d, ph1, w1, e1, s1, r1, h1⟩ => ?_⟩
        obtain ⟨p, vs, u1, o, hv, r⟩ := h1.env.ownd e0
        refine ⟨.ref p, u1, _, ρ, ph1, w1, (Run.bind (rel := relV X.K c.cm (OwnS q.O0 ρ σ)) h1).imp fun iv H3 ⟨id, ph3, w3, e3, s3, r3, h3⟩ => ?_⟩
        have r1' := Rep.keep (Ext.keep e3 s3) s3.m d v r1
        obtain ⟨xs, ph4, w4, r4, h4, k4, hp4⟩ := h3.ret (b := [v, iv]) (RepL.cons r1' (RepL.cons r3 RepL.nil))
        rcases stK_cases i ρ xs w4 with z | ⟨d', j, ys', n, rfl, e5, e6, z⟩
        · rw [z] at hp4; exact (show False from hp4).elim
        · rw [z] at hp4
          obtain ⟨_, _, e7, q1, q2⟩ := RepL.uncons r4
          cases e7
          obtain ⟨_, _, e7, q3, q4⟩ := q2.uncons
          cases e7
          cases int_of q3
          obtain ⟨p', vs', u1', o', hv', r'⟩ := h4.env.ownd e5
          rw [u1] at u1'; cases u1'
          obtain ⟨h5, k5⟩ := h4.chg e5 u1 (RepL.set (i := n) r' q1)
          exact ⟨p, vs', j, n, rfl, rfl, hv', by rw [ixP_eq, ← r'.length]; exact e6, hp4 σ _ _ h5 k5.kp⟩
      | _ => exact (show False from hp).elim
end
end FL

/-! F31: stores into lists of the def's own making that others may reach; statements that promise nothing of what stood. -/
namespace FL
open PySem
open L2 (V Hp HO Cx Inv VK XK TE TT TA TS TI TG PE PT PA PS PSs PI PG Ends WX RelV Vals Rd upd upd_same upd_ne ne_of_none EP TP AP OpR R2 CallR FnOk Room Binds)
/-! ### lists that are surely two -/
def kd : D → Nat
  | .non => 0
  | .bl _ => 1
  | .int _ => 2
  | .str _ => 3
  | .tup _ => 4
  | .lst _ => 5
  | .frz _ => 5
  | .ins _ _ _ => 6
  | .hand => 9
def unlK (i j : Nat) : Bool := i != j && (i != 9 && j != 9)
mutual
/-- two things that are surely not one -/
def unl1 : D → D → Bool
  | .int i, .int j => i != j
  | .bl i, .bl j => i != j
  | .tup xs, .tup ys => unlL xs ys
  | a, b => unlK (kd a) (kd b)
def unlL : List D → List D → Bool
  | [], [] => false
  | x :: xs, y :: ys => unl1 x y || unlL xs ys
  | _, _ => true
end
mutual
/-- no list in d may be the one that holds t -/
def noT (t : List D) : D → Bool
  | .lst ys | .frz ys => unlL t ys && noTL t ys
  | .tup ys | .ins _ _ ys => noTL t ys
  | _ => true
def noTL (t : List D) : List D → Bool
  | [] => true
  | y :: ys => noT t y && noTL t ys
end
section
variable {K : PySem.W.Frag} {cm : Nat → Addr} {H H' : Hp} {N N' : NS} {ph ph' : Option Addr}
/-- the heap and the written part share no address -/
def Dis (K : PySem.W.Frag) (H : Hp) : Prop := ∀ a o, K.lookup a = some o → H a = none
open Classical in
noncomputable def vk (K : PySem.W.Frag) (H : Hp) : V → Nat
  | .non => 0
  | .bl _ => 1
  | .int _ => 2
  | .str _ => 3
  | .ref a => if ∃ vs, Rd H a (.tup vs) ∨ KT K a vs then 4 else if ∃ vs, Rd H a (.lst vs) ∨ KL K a vs then 5 else 6
  | _ => 7
theorem rd_two {a : Addr} {u u' : HO} (h : Rd H a u) (h' : Rd H a u') : u = u' ∨ (∃ o, u = .frz o u') ∨ ∃ o, u' = .frz o u := by
  rcases h with h | ⟨o, h⟩ <;> rcases h' with h' | ⟨o', h'⟩ <;> (rw [h] at h'; injection h' with h')
  · exact .inl h'
  · exact .inr (.inl ⟨_, h'⟩)
  · exact .inr (.inr ⟨_, h'.symm⟩)
  · injection h' with _ h'; exact .inl h'
theorem rd_some {a : Addr} {u : HO} (h : Rd H a u) : ∃ x, H a = some x := by
  rcases h with h | ⟨o, h⟩
  · exact ⟨_, h⟩
  · exact ⟨_, h⟩
theorem dis_rd (dis : Dis K H) {a : Addr} {u : HO} {o : Obj} (h : Rd H a u) (hk : K.lookup a = some o) : False := by
  obtain ⟨x, e⟩ := rd_some h
  rw [dis a o hk] at e; cases e
theorem not_tl (dis : Dis K H) {a : Addr} {vs us : List V} (h : Rd H a (.tup vs) ∨ KT K a vs) (h' : Rd H a (.lst us) ∨ KL K a us) : False := by
  rcases h with h | ⟨o, its, n, hk, hc, _⟩ <;> rcases h' with h' | ⟨o', its', n', hk', hc', _⟩
  · rcases rd_two h h' with z | ⟨_, z⟩ | ⟨_, z⟩ <;> cases z
  · exact dis_rd dis h hk'
  · exact dis_rd dis h' hk
  · rw [hk] at hk'; cases hk'
    rw [hc] at hc'
    injection hc' with z
    exact absurd z (by decide)
theorem not_it (dis : Dis K H) {a : Addr} {vs : List V} {c dx : Addr} {fs : List (Str × V)} (h : Rd H a (.tup vs) ∨ KT K a vs) (h' : H a = some (.ins c dx fs)) : False := by
  rcases h with h | ⟨o, its, n, hk, _⟩
  · rcases rd_two h (Rd.of h') with z | ⟨_, z⟩ | ⟨_, z⟩ <;> cases z
  · rw [dis a o hk] at h'; cases h'
theorem not_il (dis : Dis K H) {a : Addr} {vs : List V} {c dx : Addr} {fs : List (Str × V)} (h : Rd H a (.lst vs) ∨ KL K a vs) (h' : H a = some (.ins c dx fs)) : False := by
  rcases h with h | ⟨o, its, n, hk, _⟩
  · rcases rd_two h (Rd.of h') with z | ⟨_, z⟩ | ⟨_, z⟩ <;> cases z
  · rw [dis a o hk] at h'; cases h'
theorem tn_rd {a : Addr} {vs : List V} (h : TN K H N a vs) : Rd H a (.tup vs) ∨ KT K a vs := h.imp (fun z => z.2) id
theorem ln_rd {a : Addr} {vs : List V} (h : LN K H N a vs) : Rd H a (.lst vs) ∨ KL K a vs := h.imp (fun z => z.2) id
theorem tup_one (dis : Dis K H) {a : Addr} {vs us : List V} (h : Rd H a (.tup vs) ∨ KT K a vs) (h' : Rd H a (.tup us) ∨ KT K a us) : vs = us := by
  rcases h with h | ⟨o, its, n, hk, hc, hd, hz, hv⟩ <;> rcases h' with h' | ⟨o', its', n', hk', hc', hd', hz', hv'⟩
  · rcases rd_two h h' with z | ⟨_, z⟩ | ⟨_, z⟩ <;> cases z
    rfl
  · exact (dis_rd dis h hk').elim
  · exact (dis_rd dis h' hk).elim
  · rw [hk] at hk'; cases hk'
    rw [hd] at hd'; cases hd'
    exact hv.inj hv'
theorem kd_rep (dis : Dis K H) {d : D} {v : V} (r : Rep K cm H N ph d v) : kd d = 9 ∨ kd d = vk K H v := by
  cases d with
  | non => simp only [Rep] at r; subst r; exact .inr rfl
  | bl b => simp only [Rep] at r; subst r; exact .inr rfl
  | int b => simp only [Rep] at r; subst r; exact .inr rfl
  | str b => simp only [Rep] at r; subst r; exact .inr rfl
  | tup ds =>
    simp only [Rep] at r
    obtain ⟨a, vs, rfl, t, _⟩ := r
    exact .inr (if_pos ⟨vs, tn_rd t⟩).symm
  | lst ds =>
    simp only [Rep] at r
    obtain ⟨a, vs, rfl, t, _⟩ := r
    refine .inr ((if_neg fun ⟨us, z⟩ => not_tl dis z (.inl (Rd.of t.2))).trans (if_pos ⟨vs, .inl (Rd.of t.2)⟩)).symm
  | frz ds =>
    simp only [Rep] at r
    obtain ⟨a, vs, rfl, t, _⟩ := r
    exact .inr ((if_neg fun ⟨us, z⟩ => not_tl dis z (ln_rd t)).trans (if_pos ⟨vs, ln_rd t⟩)).symm
  | ins c ns ds =>
    simp only [Rep] at r
    obtain ⟨a, dx, vs, rfl, _, t, _⟩ := r
    exact .inr ((if_neg fun ⟨us, z⟩ => not_it dis z t).trans (if_neg fun ⟨us, z⟩ => not_il dis z t)).symm
  | hand => exact .inl rfl
theorem unlK_rep (dis : Dis K H) {d e : D} {v : V} (r : Rep K cm H N ph d v) (r' : Rep K cm H N' ph' e v) : unlK (kd d) (kd e) = false := by
  unfold unlK
  rcases kd_rep dis r with h | h
  · rw [h]; simp
  · rcases kd_rep dis r' with h' | h'
    · rw [h']; simp
    · rw [h, h']; simp
mutual
theorem unl1_rep (dis : Dis K H) : ∀ (d e : D) (v : V), Rep K cm H N ph d v → Rep K cm H N' ph' e v → unl1 d e = false
  | .tup ds, e, v, r, r' => by
    cases e with
    | tup es =>
      obtain ⟨a, vs, rfl, t, rl⟩ := tup_of r
      obtain ⟨a', us, z, t', rl'⟩ := tup_of r'
      cases z
      cases tup_one dis (tn_rd t) (tn_rd t')
      show unlL ds es = false
      exact unlL_rep dis ds es vs rl rl'
    | _ => exact unlK_rep dis r r'
  | .int i, e, v, r, r' => by
    cases e with
    | int j =>
      simp only [Rep] at r r'
      subst r
      cases r'
      show (i != i) = false
      simp
    | _ => exact unlK_rep dis r r'
  | .bl i, e, v, r, r' => by
    cases e with
    | bl j =>
      simp only [Rep] at r r'
      subst r
      cases r'
      show (i != i) = false
      simp
    | _ => exact unlK_rep dis r r'
  | .non, e, v, r, r' => by cases e <;> exact unlK_rep dis r r'
  | .str _, e, v, r, r' => by cases e <;> exact unlK_rep dis r r'
  | .lst _, e, v, r, r' => by cases e <;> exact unlK_rep dis r r'
  | .frz _, e, v, r, r' => by cases e <;> exact unlK_rep dis r r'
  | .ins _ _ _, e, v, r, r' => by cases e <;> exact unlK_rep dis r r'
  | .hand, e, v, r, r' => by cases e <;> exact unlK_rep dis r r'
theorem unlL_rep (dis : Dis K H) : ∀ (ds es : List D) (vs : List V), RepL K cm H N ph ds vs → RepL K cm H N' ph' es vs → unlL ds es = false
  | [], es, vs, r, r' => by
    cases r.unnil
    cases es with
    | nil => rfl
    | cons e es => obtain ⟨_, _, z, _⟩ := r'.uncons; cases z
  | d :: ds, es, vs, r, r' => by
    obtain ⟨v, vs', rfl, r1, r2⟩ := r.uncons
    cases es with
    | nil => cases r'.unnil
    | cons e es =>
      obtain ⟨_, _, z, q1, q2⟩ := r'.uncons
      cases z
      show (unl1 d e || unlL ds es) = false
      rw [unl1_rep dis d e v r1 q1, unlL_rep dis ds es vs' r2 q2]
      rfl
end
mutual
theorem rep_upd (dis : Dis K H) {b : Addr} {t : List D} {us us' : List V} (hb : H b = some (.lst us)) (rt : RepL K cm H N ph t us) : ∀ (d : D) (v : V), noT t d = true → Rep K cm H N ph d v → Rep K cm (upd H b (.lst us')) N ph d v
  | .non, v, _, r => by simpa [Rep] using r
  | .bl _, v, _, r => by simpa [Rep] using r
  | .int _, v, _, r => by simpa [Rep] using r
  | .str _, v, _, r => by simpa [Rep] using r
  | .tup ds, v, h, r => by
    simp only [Rep] at r ⊢
    obtain ⟨a, vs, rfl, q, rl⟩ := r
    have h : noTL t ds = true := by simpa [noT] using h
    refine ⟨a, vs, rfl, ?_, repl_upd dis hb rt ds vs h rl⟩
    rcases q with ⟨n, q⟩ | q
    · refine .inl ⟨n, ?_⟩
      have ne : a ≠ b := fun z => by
        subst z
        rcases q with q | ⟨_, q⟩ <;> (rw [hb] at q; cases q)
      rcases q with q | ⟨o, q⟩
      · exact .inl (by rw [upd_ne ne]; exact q)
      · exact .inr ⟨o, by rw [upd_ne ne]; exact q⟩
    · exact .inr q
  | .lst ds, v, h, r => by
    simp only [Rep] at r ⊢
    obtain ⟨a, vs, rfl, ⟨n, q⟩, rl⟩ := r
    have h : unlL t ds = true ∧ noTL t ds = true := by simpa [noT] using h
    have ne : a ≠ b := fun z => by
      subst z
      rw [hb] at q; cases q
      rw [unlL_rep dis _ _ _ rt rl] at h
      exact Bool.false_ne_true h.1
    exact ⟨a, vs, rfl, ⟨n, by rw [upd_ne ne]; exact q⟩, repl_upd dis hb rt ds vs h.2 rl⟩
  | .frz ds, v, h, r => by
    simp only [Rep] at r ⊢
    obtain ⟨a, vs, rfl, q, rl⟩ := r
    have h : unlL t ds = true ∧ noTL t ds = true := by simpa [noT] using h
    refine ⟨a, vs, rfl, ?_, repl_upd dis hb rt ds vs h.2 rl⟩
    rcases q with ⟨n, q⟩ | q
    · refine .inl ⟨n, ?_⟩
      have ne : a ≠ b := fun z => by
        subst z
        rcases q with q | ⟨_, q⟩
        · rw [hb] at q; cases q
          rw [unlL_rep dis _ _ _ rt rl] at h
          exact Bool.false_ne_true h.1
        · rw [hb] at q; cases q
      rcases q with q | ⟨o, q⟩
      · exact .inl (by rw [upd_ne ne]; exact q)
      · exact .inr ⟨o, by rw [upd_ne ne]; exact q⟩
    · exact .inr q
  | .ins c ns ds, v, h, r => by
    simp only [Rep] at r ⊢
    obtain ⟨a, dx, vs, rfl, n, q, l, rl⟩ := r
    have h : noTL t ds = true := by simpa [noT] using h
    have ne : a ≠ b := fun z => by subst z; rw [hb] at q; cases q
    exact ⟨a, dx, vs, rfl, n, by rw [upd_ne ne]; exact q, l, repl_upd dis hb rt ds vs h rl⟩
  | .hand, v, _, r => by simpa [Rep] using r
theorem repl_upd (dis : Dis K H) {b : Addr} {t : List D} {us us' : List V} (hb : H b = some (.lst us)) (rt : RepL K cm H N ph t us) : ∀ (ds : List D) (vs : List V), noTL t ds = true → RepL K cm H N ph ds vs → RepL K cm (upd H b (.lst us')) N ph ds vs
  | [], vs, _, r => by cases r.unnil; exact RepL.nil
  | d :: ds, vs, h, r => by
    obtain ⟨v, vs', rfl, r1, r2⟩ := r.uncons
    have h : noT t d = true ∧ noTL t ds = true := by simpa [noTL] using h
    exact RepL.cons (rep_upd dis hb rt d v h.1 r1) (repl_upd dis hb rt ds vs' h.2 r2)
end
end
/-! ### what stands behind such a store -/
def wipS (t : List D) : Slot → Slot
  | .val d => if noT t d = true then .val d else .none
  | .nest ds => if noT t (.lst ds) = true then .nest ds else .none
  | s => s
/-- the slots that may hold the list are emptied -/
def wipT (t : List D) (ρ : Env) : Env := ρ.map (wipS t)
def okS1 (t : List D) : Slot → Bool
  | .own xs => noTL t xs
  | .exc _ _ xs => noTL t xs
  | _ => true
def okW (t : List D) : Wd → Bool
  | none => true
  | some hs => noTL t hs
def okT (t : List D) (ρ : Env) (w : Wd) : Bool := ρ.all (okS1 t) && okW t w
theorem wipT_at {t : List D} {ρ : Env} {i : Nat} {s : Slot} (e : (wipT t ρ)[i]? = some s) : ∃ s0, ρ[i]? = some s0 ∧ s = wipS t s0 := by
  unfold wipT at e
  rw [List.getElem?_map] at e
  cases h : ρ[i]? with
  | none => rw [h] at e; cases e
  | some s0 => rw [h] at e; exact ⟨s0, rfl, (Option.some.inj e).symm⟩
theorem wipT_own {t : List D} {ρ : Env} {i : Nat} {xs : List D} : (wipT t ρ)[i]? = some (.own xs) ↔ ρ[i]? = some (.own xs) := by
  constructor
  · intro e
    obtain ⟨s0, e0, e1⟩ := wipT_at e
    cases s0 with
    | own ys => cases e1; exact e0
    | val d => unfold wipS at e1; simp only at e1; split at e1 <;> cases e1
    | nest d => unfold wipS at e1; simp only at e1; split at e1 <;> cases e1
    | none => cases e1
    | exc => cases e1
    | slf => cases e1
  · intro e
    unfold wipT
    rw [List.getElem?_map, e]
    rfl
theorem wipT_nest {t : List D} {ρ : Env} {i : Nat} {xs : List D} (e : (wipT t ρ)[i]? = some (.nest xs)) : ρ[i]? = some (.nest xs) := by
  obtain ⟨s0, e0, e1⟩ := wipT_at e
  cases s0 with
  | nest ys =>
    unfold wipS at e1
    simp only at e1
    split at e1
    · cases e1; exact e0
    · cases e1
  | val d => unfold wipS at e1; simp only at e1; split at e1 <;> cases e1
  | own ys => cases e1
  | none => cases e1
  | exc => cases e1
  | slf => cases e1
section
variable {K : PySem.W.Frag} {cm : Nat → Addr} {xa : Option (Addr × Nat × Addr)} {q : Sq} {ρ : Env} {σ : St} {H : Hp} {ph : Option Addr} {w : Wd}
theorem own_wipT {t : List D} {a : Addr} : OwnS q.O0 (wipT t ρ) σ a ↔ OwnS q.O0 ρ σ a := by
  unfold OwnS
  simp only [wipT_own]
theorem nn_wipT {t : List D} : NN q (wipT t ρ) σ ph = NN q ρ σ ph := by
  funext a
  show (OwnS q.O0 (wipT t ρ) σ a ∨ _) = (OwnS q.O0 ρ σ a ∨ _)
  rw [propext own_wipT]
theorem owns_wipT {t : List D} : OwnS q.O0 (wipT t ρ) σ = OwnS q.O0 ρ σ := by
  funext a
  exact propext own_wipT
/-- the list at b, new since the entry, is changed -/
theorem StS.put (dis : Dis K H) {b : Addr} {t : List D} {us us' : List V} (h : StS K cm xa q ρ ph w σ H) (nb : ¬ NN q ρ σ ph b) (hb : H b = some (.lst us)) (rt : RepL K cm H (NN q ρ σ ph) ph t us) (new : q.B b = none) (ok : okT t ρ w = true) :
    StS K cm xa q (wipT t ρ) ph w σ (upd H b (.lst us')) := by
  have ok2 : (∀ s ∈ ρ, okS1 t s = true) ∧ okW t w = true := by unfold okT at ok; simpa [List.all_eq_true] using ok
  have nph : ph ≠ some b := fun z => nb (.inr z)
  have own_ne : ∀ a, OwnS q.O0 ρ σ a → a ≠ b := fun a o z => nb (.inl (by rw [← z]; exact o))
  refine ⟨⟨by unfold wipT; simp [h.env.len], fun i s x e1 e2 => ?_, fun a o => ?_⟩, ?_, fun a o n e => ?_, h.phs, h.o0, fun i j p xs ys e1 e2 => h.inj i j p xs ys (wipT_own.mp e1) (wipT_own.mp e2), fun i p xs e1 => h.fresh i p xs (wipT_own.mp e1), fun i ds v e1 e2 => ?_⟩
  · obtain ⟨s0, e0, rfl⟩ := wipT_at e1
    have hh := h.env.at_ i s0 x e0 e2
    have hok := ok2.1 s0 (List.mem_of_getElem? e0)
    rw [owns_wipT]
    cases s0 with
    | none => trivial
    | slf => exact hh
    | val d =>
      obtain ⟨v, ev, r⟩ := hh
      unfold wipS
      simp only
      by_cases c : noT t d = true
      · rw [if_pos c]; exact ⟨v, ev, rep_upd dis hb rt d v c r⟩
      · rw [if_neg c]; trivial
    | nest ds =>
      obtain ⟨v, ev, r⟩ := hh
      unfold wipS
      simp only
      by_cases c : noT t (.lst ds) = true
      · rw [if_pos c]; exact ⟨v, ev, rep_upd dis hb rt _ v c r⟩
      · rw [if_neg c]; trivial
    | own ds =>
      obtain ⟨p, vs, ev, o, hp, r⟩ := hh
      exact ⟨p, vs, ev, o, by rw [upd_ne (own_ne p o)]; exact hp, repl_upd dis hb rt ds vs hok r⟩
    | exc c ns ds =>
      obtain ⟨a, dd, vs, ev, hx, n, hd, l, r⟩ := hh
      exact ⟨a, dd, vs, ev, hx, n, by rw [upd_ne (fun z => by rw [z, hb] at hd; cases hd)]; exact hd, l, repl_upd dis hb rt ds vs hok r⟩
  · rw [owns_wipT] at o
    obtain ⟨y, u, z, k⟩ := h.env.tr a o
    exact ⟨y, u, by rw [upd_ne (own_ne a o)]; exact z, k⟩
  · rw [owns_wipT]
    have hh := h.hand
    cases w with
    | none => cases ph with
      | none => trivial
      | some p => exact hh.elim
    | some hs =>
      have ok3 : noTL t hs = true := ok2.2
      cases ph with
      | none => exact hh.elim
      | some p =>
        obtain ⟨vs, h1, h2⟩ := hh
        exact ⟨vs, by rw [upd_ne (fun z => nph (by rw [z]))]; exact h1, repl_upd dis hb rt hs vs ok3 h2⟩
  · rw [upd_ne (fun z => by rw [z, new] at e; cases e)]; exact h.base a o n e
  · have e0 := wipT_nest e1
    obtain ⟨p, vs, rfl, h1, h2, h3⟩ := h.news i ds v e0 e2
    obtain ⟨s0, e00, e01⟩ := wipT_at e1
    rw [e0] at e00; cases e00
    have c : noT t (.lst ds) = true := by
      unfold wipS at e01
      simp only at e01
      by_cases c : noT t (.lst ds) = true
      · exact c
      · rw [if_neg c] at e01; cases e01
    have c2 : unlL t ds = true ∧ noTL t ds = true := by simpa [noT] using c
    obtain ⟨v', e3, r⟩ := h.env.nestd e0
    rw [e2] at e3; cases e3
    obtain ⟨a, us2, ea, ⟨_, ta⟩, rl⟩ := lst_of r
    cases ea
    rw [ta] at h2; cases h2
    refine ⟨p, vs, rfl, h1, ?_, h3⟩
    rw [upd_ne (fun z => ?_)]
    · exact ta
    · subst z
      rw [hb] at ta; cases ta
      rw [unlL_rep dis _ _ _ rt rl] at c2
      exact Bool.false_ne_true c2.1
end
/-! ### statements that promise nothing of what stood -/
section
variable (K : PySem.W.Frag) (cm : Nat → Addr) (xa : Option (Addr × Nat × Addr)) (q : Sq)
def Post3 (Wx : WX) (D : Ends) : SR → Prop
  | .nx ρ' w' => ∀ σ' H' ph', StS K cm xa q ρ' ph' w' σ' H' → D.nx σ' H'
  | .bk ρ' w' => ∀ σ' H' ph', StS K cm xa q ρ' ph' w' σ' H' → D.bk σ' H'
  | .ct ρ' w' => ∀ σ' H' ph', StS K cm xa q ρ' ph' w' σ' H' → D.ct σ' H'
  | .rt d w' => ∀ v H' ph', Ext q.ph0 q.B H' → PhS q.B q.ph0 ph' → HandOk K cm H' q.O0 ph' w' → Rep K cm H' (OO q.O0 ph') ph' d v → D.rt v H'
  | .ex c ns xs ρ' w' => ∀ σ' H' ph' dd vs, StS K cm xa q ρ' ph' w' σ' H' → H' dd = some (.xd (ns.zip vs).reverse) → ns.length = vs.length → RepL K cm H' (NN q ρ' σ' ph') ph' xs vs → Wx (.ref (cm c)) (some dd) σ' H'
  | .bad => False
def tY (Wx : WX) (s : SF) : TS := fun D σ H => ∃ ρ ph w, StS K cm xa q ρ ph w σ H ∧ Post3 K cm xa q Wx D (s ρ w)
end
abbrev PSY (X : Cx) (c : Cfg) (q : Sq) (st : Stmt) (s : SF) : Prop := PS X st (tY X.K c.cm c.xa q c.Wx s)
abbrev PSSY (X : Cx) (c : Cfg) (q : Sq) (st : List Stmt) (s : SF) : Prop := PSs X st (tY X.K c.cm c.xa q c.Wx s)
section
variable {K : PySem.W.Frag} {cm : Nat → Addr} {xa : Option (Addr × Nat × Addr)} {q : Sq} {H : Hp} {N : NS} {ph : Option Addr} {Wx : WX} {D : Ends} {r : SR}
theorem Post3.weak (h : Post3 K cm xa q Wx D r) : Post2 K cm xa q Wx D H N ph r := by
  cases r with
  | nx ρ' w' => exact fun σ' H' ph' s _ => h σ' H' ph' s
  | bk ρ' w' => exact fun σ' H' ph' s _ => h σ' H' ph' s
  | ct ρ' w' => exact fun σ' H' ph' s _ => h σ' H' ph' s
  | rt d w' => exact h
  | ex c ns xs ρ' w' => exact fun σ' H' ph' dd vs s _ => h σ' H' ph' dd vs s
  | bad => exact h
end
section
variable {X : Cx} {c : Cfg} {q : Sq} {pos : Pos} {e : Expr} {fe : EF} {st : Stmt} {sts : List Stmt} {s t : SF}
theorem psy_lift (h : PSX X c q st s) : PSY X c q st s := PS.to h fun D σ H ⟨ρ, ph, w, h, hp⟩ => ⟨ρ, ph, w, h, hp.weak⟩
theorem pssy_lift (h : PSSX X c q sts s) : PSSY X c q sts s := PSs.to h fun D σ H ⟨ρ, ph, w, h, hp⟩ => ⟨ρ, ph, w, h, hp.weak⟩
theorem pssy_nil : PSSY X c q [] sNext := pssy_lift pssx_nil
theorem pssy_cons (h1 : PSY X c q st s) (h2 : PSSY X c q sts t) : PSSY X c q (st :: sts) (sSeq s t) := PSs.to (L2.pss_cons h1 h2) fun D σ H ⟨ρ, ph, w, h, hp⟩ => by
  refine ⟨ρ, ph, w, h, ?_⟩
  unfold sSeq at hp
  cases er : s ρ w with
  | nx ρ' w' =>
    rw [er] at hp
    exact fun σ' H' ph' h2 => ⟨ρ', ph', w', h2, hp⟩
  | rt d w' => rw [er] at hp; exact hp
  | bk ρ' w' => rw [er] at hp; exact hp
  | ct ρ' w' => rw [er] at hp; exact hp
  | ex c ns xs ρ' w' => rw [er] at hp; exact hp
  | bad => rw [er] at hp; exact hp
theorem pssy_one (h1 : PSY X c q st s) : PSSY X c q [st] s := L2.pss_one h1
/-- an expression's run within such a statement -/
theorem onE_run3 {K : PySem.W.Frag} {cm : Nat → Addr} {xa : Option (Addr × Nat × Addr)} {q : Sq} {ρ : Env} {σ : St} {H : Hp} {ph : Option Addr} {w : Wd} {Wx : WX} {D : Ends} {α β : Type} {rel : Hp → Option Addr → α → β → Prop} {m : M α} {k : α → Wd → SR} (h : StS K cm xa q ρ ph w σ H) (hp : Post3 K cm xa q Wx D (onE m ρ w k)) :
    Run K cm xa (OwnS q.O0 ρ σ) rel Wx ρ σ ph H w m (fun b H1 => ∃ a ph1 w1, rel H1 ph1 a b ∧ StS K cm xa q ρ ph1 w1 σ H1 ∧ Post3 K cm xa q Wx D (k a w1)) := by
  refine ⟨h.env, h.hand, ?_⟩
  unfold onE at hp
  cases et : m w with
  | ok a w' =>
    rw [et] at hp
    exact fun b H1 ph1 x1 s1 hk r => ⟨a, ph1, w', r, h.ext x1 s1 hk, hp⟩
  | ex c ns xs w' =>
    rw [et] at hp
    exact fun dd H1 ph1 vs x1 s1 hk hd l rv => hp σ H1 ph1 dd vs (h.ext x1 s1 hk) hd l rv
  | bad => rw [et] at hp; exact (show False from hp).elim
theorem psy_if {ta : TF} {b1 b2 : List Stmt} {e1 : Expr} (ht : PTX X c e1 ta) (ha : PSSY X c q b1 s) (hb : PSSY X c q b2 t) : PSY X c q (.If e1 b1 b2 pos) (sIf ta s t) :=
  PS.to (L2.ps_if ht ha hb) fun D σ H ⟨ρ, ph, w, h, hp⟩ => by
    have hp2 : Post3 X.K c.cm c.xa q c.Wx D (onE (ta ρ) ρ w fun b w' => if b = true then s ρ w' else t ρ w') := hp
    refine ⟨_, ρ, ph, w, h.env, h.hand, ?_⟩
    unfold onE at hp2
    cases et : ta ρ w with
    | ok b w' =>
      rw [et] at hp2
      intro b' H1 ph1 x1 s1 hk z
      cases z
      have h1 := h.ext x1 s1 hk
      cases b with
      | true => exact ⟨ρ, ph1, w', h1, hp2⟩
      | false => exact ⟨ρ, ph1, w', h1, hp2⟩
    | ex k ns xs w' =>
      rw [et] at hp2
      intro dd H1 ph1 vs x1 s1 hk hd l rv
      exact hp2 σ H1 ph1 dd vs (h.ext x1 s1 hk) hd l rv
    | bad => rw [et] at hp2; exact (show False from hp2).elim
end
/-! ### a store that may know that the heap and the written part share nothing -/
def rDis (K : PySem.W.Frag) (t : L2.TSet) : L2.TSet := fun o i v H Q => Dis K H → t o i v H Q
theorem pset_dis {X : Cx} {t : L2.TSet} (h : L2.PSet X t) : L2.PSet X (rDis X.K t) := fun pins s σ H o i v ov iv u Q I r1 r2 r3 hq =>
  h pins s σ H o i v ov iv u Q I r1 r2 r3 (hq fun a o e => k_free I e)
end FL

/-! F32: x[j][k] = e, where x is a list of lists of the def's own making. -/
namespace FL
open PySem
open L2 (V Hp HO Cx Inv VK XK TE TT TA TS TI TG PE PT PA PS PSs PI PG Ends WX RelV Vals Rd upd upd_same upd_ne ne_of_none EP TP AP OpR R2 CallR FnOk Room Binds)
theorem RepL.of_get {K : PySem.W.Frag} {cm : Nat → Addr} {H : Hp} {N : NS} {ph : Option Addr} : ∀ (ds : List D) (vs : List V), ds.length = vs.length → (∀ (i : Nat) d v, ds[i]? = some d → vs[i]? = some v → Rep K cm H N ph d v) → RepL K cm H N ph ds vs
  | [], [], _, _ => RepL.nil
  | d :: ds, v :: vs, l, h => RepL.cons (h 0 d v rfl rfl) (RepL.of_get ds vs (by simpa using l) fun i d v e1 e2 => h (i + 1) d v (by simpa using e1) (by simpa using e2))
  | [], _ :: _, l, _ => by cases l
  | _ :: _, [], l, _ => by cases l
def noTI (t : List D) : D → Bool
  | .lst ys => noTL t ys
  | d => noT t d
/-- the state behind: the list at m of the lists ds holds d at n -/
def p2S (i m n : Nat) (ds xs : List D) (d : D) (ρ : Env) (w : Wd) : SR :=
  if (noT xs d && noTL xs xs && unlL xs ds && ds.all (noTI xs) && okT xs ρ w) = true then .nx ((wipT xs ρ).set i (.nest (ds.set m (.lst (xs.set n d))))) w else .bad
def p2K (i : Nat) (ρ : Env) : List D → Wd → SR
  | [d, .int j, .int k], w => (match ρ[i]? with
    | some (.nest ds) => (match ixP ds.length j with
      | some m => (match ds[m]? with
        | some (.lst xs) => (match ixP xs.length k with
          | some n => p2S i m n ds xs d ρ w
          | none => .bad)
        | _ => .bad)
      | none => .bad)
    | _ => .bad)
  | _, _ => .bad
theorem p2K_cases (i : Nat) (ρ : Env) (zs : List D) (w : Wd) : p2K i ρ zs w = .bad ∨ ∃ d j k ds m xs n, zs = [d, .int j, .int k] ∧ ρ[i]? = some (.nest ds) ∧ ixP ds.length j = some m ∧ ds[m]? = some (.lst xs) ∧ ixP xs.length k = some n ∧ p2K i ρ zs w = p2S i m n ds xs d ρ w := by
  unfold p2K
  split
  · rename_i d j k
    split
    · rename_i ds e
      split
      · rename_i m e2
        split
        · rename_i xs e3
          split
          · rename_i n e4
            exact .inr ⟨d, j, k, ds, m, xs, n, rfl, e, e2, e3, e4, rfl⟩
          · exact .inl rfl
        · exact .inl rfl
      · exact .inl rfl
    · exact .inl rfl
  · exact .inl rfl
def sPut2 (i : Nat) (fj fk fe : EF) : SF := fun ρ w => match ρ[i]? with
  | some (.nest ds) => onE (M.bind (fe ρ) fun d => M.bind (fj ρ) fun j => M.bind (ixL ds j) fun _ => M.bind (fk ρ) fun k => M.ret [d, j, k]) ρ w (p2K i ρ)
  | _ => .bad
section
variable {K : PySem.W.Frag} {cm : Nat → Addr} {xa : Option (Addr × Nat × Addr)} {q : Sq} {ρ : Env} {σ : St} {H : Hp} {ph : Option Addr} {w : Wd} {Wx : WX} {D : Ends}
theorem put2_end (dis : Dis K H) {i m n : Nat} {ds xs : List FL.D} {d : FL.D} {p b : Addr} {vs us : List V} {v : V} (h : StS K cm xa q ρ ph w σ H) (e0 : ρ[i]? = some (.nest ds)) (e1 : σ[i]? = some (some (.ref p))) (hp : H p = some (.lst vs)) (em : ds[m]? = some (.lst xs)) (ev : vs[m]? = some (.ref b)) (hb : H b = some (.lst us))
    (r : Rep K cm H (NN q ρ σ ph) ph d v) (post : Post3 K cm xa q Wx D (p2S i m n ds xs d ρ w)) : D.nx σ (upd H b (.lst (us.set n v))) := by
  unfold p2S at post
  by_cases c : (noT xs d && noTL xs xs && unlL xs ds && ds.all (noTI xs) && okT xs ρ w) = true
  · rw [if_pos c] at post
    simp only [Bool.and_eq_true, List.all_eq_true] at c
    obtain ⟨⟨⟨⟨c1, c2⟩, c3⟩, c4⟩, c5⟩ := c
    obtain ⟨v', ea, ra⟩ := h.env.nestd e0
    rw [e1] at ea; cases ea
    obtain ⟨p2, vs2, eb, ⟨np, hp2⟩, rl⟩ := lst_of ra
    cases eb
    rw [hp] at hp2; cases hp2
    obtain ⟨p3, vs3, ec, Bp, hp3, hn⟩ := h.news i ds _ e0 e1
    cases ec
    rw [hp] at hp3; cases hp3
    obtain ⟨b2, ed, Bb, hd⟩ := hn m xs em
    rw [ev] at ed; cases ed
    obtain ⟨vm, ef, rm⟩ := rl.get em
    rw [ev] at ef; cases ef
    obtain ⟨b3, us2, eg, ⟨nb, hb2⟩, rx⟩ := lst_of rm
    cases eg
    rw [hb] at hb2; cases hb2
    have pb : p ≠ b := fun z => by
      subst z
      rw [hp] at hb; cases hb
      rw [unlL_rep dis _ _ _ rx rl] at c3
      exact Bool.false_ne_true c3
    have S := h.put dis (us' := us.set n v) nb hb rx Bb c5
    have hlen : i < ρ.length := (List.getElem?_eq_some_iff.mp e0).1
    have es : σ.set i (some (.ref p)) = σ := by
      apply List.ext_getElem?
      intro j
      by_cases hj : i = j
      · subst hj
        have hiσ : i < σ.length := by rw [h.env.len]; exact hlen
        rw [List.getElem?_set_self hiσ, e1]
      · rw [List.getElem?_set_ne hj]
    have hp5 : upd H b (.lst (us.set n v)) p = some (.lst vs) := by rw [upd_ne pb]; exact hp
    have hm : m < ds.length := (List.getElem?_eq_some_iff.mp em).1
    have items : RepL K cm (upd H b (.lst (us.set n v))) (NN q ρ σ ph) ph (ds.set m (.lst (xs.set n d))) vs := by
      refine RepL.of_get _ _ (by rw [List.length_set]; exact rl.length) fun k d0 v0 k1 k2 => ?_
      by_cases km : m = k
      · subst km
        rw [List.getElem?_set_self hm] at k1
        cases k1
        rw [ev] at k2; cases k2
        simp only [Rep]
        exact ⟨b, us.set n v, rfl, ⟨nb, upd_same⟩, RepL.set (repl_upd dis hb rx xs us c2 rx) (rep_upd dis hb rx d v c1 r)⟩
      · rw [List.getElem?_set_ne km] at k1
        obtain ⟨v1, k3, r1⟩ := rl.get k1
        rw [k2] at k3; cases k3
        have ci := c4 d0 (List.mem_of_getElem? k1)
        cases d0 with
        | lst ys =>
          obtain ⟨a, vs4, ez, ⟨na, ha⟩, r4⟩ := lst_of r1
          cases ez
          have ab : a ≠ b := fun z => by subst z; exact km (hd k k2)
          simp only [Rep]
          exact ⟨a, vs4, rfl, ⟨na, by rw [upd_ne ab]; exact ha⟩, repl_upd dis hb rx ys vs4 ci r4⟩
        | _ => exact rep_upd dis hb rx _ _ ci r1
    have S2 := S.setvn (i := i) (s := .nest (ds.set m (.lst (xs.set n d)))) (x := some (.ref p)) (fun _ z => by cases z) (fun ds' v' z1 z2 => by
      cases z1
      cases z2
      refine ⟨p, vs, rfl, Bp, hp5, fun k ys k1 => ?_⟩
      by_cases km : m = k
      · subst km
        exact ⟨b, ev, Bb, hd⟩
      · rw [List.getElem?_set_ne km] at k1
        exact hn k ys k1) ⟨.ref p, rfl, by
        rw [owns_wipT]
        simp only [Rep]
        exact ⟨p, vs, rfl, ⟨np, hp5⟩, items⟩⟩
    rw [es] at S2
    exact post σ _ ph S2
  · rw [if_neg c] at post; exact (show False from post).elim
end
section
variable {X : Cx} {c : Cfg} {q : Sq} {pos : Pos}
theorem psy_put2 (i : Nat) {x : Str} {p0 p1 p2 : Pos} {j k e : Expr} {fj fk fe : EF} (he : PX X c e fe)
    (hg : PG X (.Subscript (.Subscript (.Name x p0) j p1) k p2) (L2.gSub (L2.tOp (L2.rIx X.K) (L2.tVar i) (tX X.K c.cm c.xa c.Wx fj)) (tX X.K c.cm c.xa c.Wx fk) (rDis X.K L2.rSetL))) (hs : swapsWithSole [.Subscript (.Subscript (.Name x p0) j p1) k p2] e pos.line X.env = pure false := by rfl) (hw : swappedStores [.Subscript (.Subscript (.Name x p0) j p1) k p2] e X.env = pure none := by rfl)
    (h1 : (assignEach [.Subscript (.Subscript (.Name x p0) j p1) k p2] X.env).map (·.2) = [assign (.Subscript (.Subscript (.Name x p0) j p1) k p2) X.env] := by rfl) : PSY X c q (.Assign [.Subscript (.Subscript (.Name x p0) j p1) k p2] e pos) (sPut2 i fj fk fe) :=
  PS.to (L2.ps_asg he hg hs hw h1) fun D σ H ⟨ρ, ph, w, h, hp⟩ => by
    unfold sPut2 at hp
    cases e0 : ρ[i]? with
    | none => rw [e0] at hp; exact (show False from hp).elim
    | some sl =>
      rw [e0] at hp
      cases sl with
      | nest ds =>
        have r0 := onE_run3 (rel := relL X.K c.cm (OwnS q.O0 ρ σ)) h hp
        refine ⟨_, ρ, ph, w, (Run.bind (rel := relV X.K c.cm (OwnS q.O0 ρ σ)) r0).imp fun v H1 ⟨d, ph1, w1, e1, s1, r1, h1⟩ => ?_⟩
        obtain ⟨v0, f1, f2⟩ := h1.env.nestd e0
        obtain ⟨p, vs0, rfl, _, _⟩ := lst_of f2
        refine ⟨.ref p, f1, _, ρ, ph1, w1, (Run.bind (rel := relV X.K c.cm (OwnS q.O0 ρ σ)) h1).imp fun jv H2 ⟨jd, ph2, w2, e2, s2, r2, h2⟩ => ?_⟩
        obtain ⟨v2, g1, g2⟩ := h2.env.nestd e0
        rw [f1] at g1; cases g1
        obtain ⟨p2, vs2, ez, ⟨np, hv2⟩, rl2⟩ := lst_of g2
        cases ez
        have r1' := Rep.keep (Ext.keep e2 s2) s2.m d v r1
        obtain ⟨j, ov, rfl, ea, a, ph3, w3, e3, s3, _, h3⟩ := ixL_run rl2 r2 (Run.bind (rel := relV X.K c.cm (OwnS q.O0 ρ σ)) h2)
        refine .inl ⟨p, vs2, j, ov, rfl, rfl, .inl (.inl hv2), ea, ?_⟩
        refine ⟨_, ρ, ph3, w3, (Run.bind (rel := relV X.K c.cm (OwnS q.O0 ρ σ)) h3).imp fun kv H4 ⟨kd, ph4, w4, e4, s4, r4, h4⟩ => ?_⟩
        have k3 := Ext.keep (O := OwnS q.O0 ρ σ) e3 s3
        have k4 := Ext.keep (O := OwnS q.O0 ρ σ) e4 s4
        have hv3 := k3.1 p _ np hv2
        have np3 := fun z => np (k3.2 p _ hv2 z)
        have hv4 := k4.1 p _ np3 hv3
        obtain ⟨zs, ph5, w5, rz, st, hp5⟩ := h4.ret (b := [v, .int j, kv]) (RepL.cons (Rep.keep k4 s4.m _ _ (Rep.keep k3 s3.m _ _ r1')) (RepL.cons (Rep.keep k4 s4.m _ _ (Rep.keep k3 s3.m _ _ r2)) (RepL.cons r4 RepL.nil)))
        rcases p2K_cases i ρ zs w5 with z | ⟨d', j', k', ds', m, xs, n, rfl, e5, e6, e7, e8, z⟩
        · rw [z] at hp5; exact (show False from hp5).elim
        · rw [z] at hp5
          rw [e0] at e5; cases e5
          obtain ⟨_, _, y1, q1, q2⟩ := RepL.uncons rz
          cases y1
          obtain ⟨_, _, y1, q3, q4⟩ := q2.uncons
          cases y1
          obtain ⟨_, _, y1, q5, q6⟩ := q4.uncons
          cases y1
          cases int_of q5
          cases int_of q3
          obtain ⟨v5, t1, t2⟩ := st.env.nestd e0
          rw [f1] at t1; cases t1
          obtain ⟨p5, vs5, ez, ⟨_, hv5⟩, rl5⟩ := lst_of t2
          cases ez
          rw [hv4] at hv5; cases hv5
          obtain ⟨v6, ev, rm⟩ := rl5.get e7
          obtain ⟨b, us, rfl, ⟨nb, hb⟩, rx⟩ := lst_of rm
          have eo : ov = .ref b := by
            rw [itemAt_eq] at ea
            unfold itemAt at ea
            rw [← rl5.length, e6] at ea
            simp only at ea
            rw [ev] at ea
            exact (Option.some.inj ea).symm
          subst eo
          exact fun dis => ⟨b, us, k', n, rfl, rfl, hb, by rw [ixP_eq, ← rx.length]; exact e8, put2_end dis st e0 f1 hv4 e7 ev hb q1 hp5⟩
      | _ => exact (show False from hp).elim
end
end FL

/-! F33: x = [[..] for ..]: a list of lists of the def's own making. -/
namespace FL
open PySem
open L2 (It V Hp HO Cx Inv VK XK TE TT TA TS TI TG PE PT PA PS PSs PI PG Ends WX RelV Vals Rd upd upd_same upd_ne ne_of_none EP TP AP OpR R2 CallR FnOk Room Binds)
/-- the lists at vs are new since H0, no two are one -/
def NewL (H0 : Hp) (vs : List V) : Prop := vs.Nodup ∧ ∀ v ∈ vs, ∃ b, v = .ref b ∧ H0 b = none
theorem nd_inj {vs : List V} (n : vs.Nodup) {i j : Nat} {v : V} (e1 : vs[i]? = some v) (e2 : vs[j]? = some v) : i = j := by
  obtain ⟨h1, e1⟩ := List.getElem?_eq_some_iff.mp e1
  obtain ⟨h2, e2⟩ := List.getElem?_eq_some_iff.mp e2
  rcases Nat.lt_trichotomy i j with h | h | h
  · exact absurd (e1.trans e2.symm) (List.pairwise_iff_getElem.mp n i j h1 h2 h)
  · exact h
  · exact absurd (e2.trans e1.symm) (List.pairwise_iff_getElem.mp n j i h2 h1 h)
def AllL (ds : List D) : Prop := ∀ d ∈ ds, ∃ xs, d = .lst xs
section
variable {K : PySem.W.Frag} {cm : Nat → Addr} {xa : Option (Addr × Nat × Addr)} {O : NS} {H H' H0 : Hp} {N : NS} {ph ph' : Option Addr} {w w' : Wd}
def Grow (H H' : Hp) : Prop := ∀ b, H' b = none → H b = none
theorem Grow.trans {H1 H2 H3 : Hp} (x : Grow H1 H2) (y : Grow H2 H3) : Grow H1 H3 := fun b e => x b (y b e)
theorem grow_all (h : ∀ b o, H b = some o → H' b = some o) : Grow H H' := fun b e => by
  cases z : H b with
  | none => rfl
  | some o => rw [h b o z] at e; cases e
theorem grow_upd {p : Addr} {o : HO} : Grow H (upd H p o) := fun b e => by
  by_cases z : b = p
  · subst z; rw [upd_same] at e; cases e
  · rw [upd_ne z] at e; exact e
theorem grow_ext (x : Ext ph H H') (s : PhS H ph ph') (hk : HandOk K cm H' O ph' w') : Grow H H' := fun b e => by
  cases z : H b with
  | none => rfl
  | some o =>
    by_cases c : ph = some b
    · obtain ⟨vs, y⟩ := hk.tr (s.m b c)
      rw [e] at y; cases y
    · rw [x b o c z] at e; cases e
theorem relL_refs {ds : List D} {vs : List V} (al : AllL ds) (r : RepL K cm H N ph ds vs) {v : V} (hv : v ∈ vs) : ∃ b us, v = .ref b ∧ H b = some (.lst us) := by
  obtain ⟨i, hi, e⟩ := List.mem_iff_getElem.mp hv
  have hd : i < ds.length := by rw [r.length]; exact hi
  obtain ⟨xs, ex⟩ := al ds[i] (List.getElem_mem hd)
  obtain ⟨v', e2, r2⟩ := r.get (List.getElem?_eq_getElem hd)
  rw [List.getElem?_eq_getElem hi, e] at e2
  cases e2
  rw [ex] at r2
  obtain ⟨b, us, e3, ⟨_, t⟩, _⟩ := lst_of r2
  exact ⟨b, us, e3, t⟩
theorem NewL.snoc {ds : List D} {vs : List V} {p : Addr} (n : NewL H0 vs) (al : AllL ds) (r : RepL K cm H N ph ds vs) (hp : H p = none) (hp0 : H0 p = none) : NewL H0 (vs ++ [.ref p]) := by
  refine ⟨List.nodup_append.mpr ⟨n.1, List.pairwise_singleton _ _, fun a ha b hb e => ?_⟩, fun v hv => ?_⟩
  · rw [List.mem_singleton] at hb
    subst e
    subst hb
    obtain ⟨b, us, e, t⟩ := relL_refs al r ha
    cases e
    rw [hp] at t; cases t
  · rcases List.mem_append.mp hv with h | h
    · exact n.2 v h
    · exact ⟨p, List.mem_singleton.mp h, hp0⟩
end
/-- lists and their newness -/
abbrev relLN (K : PySem.W.Frag) (cm : Nat → Addr) (O : NS) (H0 : Hp) : Hp → Option Addr → List D → List V → Prop := fun H ph ds vs => RepL K cm H (OO O ph) ph ds vs ∧ AllL ds ∧ NewL H0 vs
def tNN (K : PySem.W.Frag) (cm : Nat → Addr) (xa : Option (Addr × Nat × Addr)) (Wx : WX) (f : NF) : TE := fun σ H Q => ∃ O ρ ph w, Run K cm xa O (relLN K cm O H) Wx ρ σ ph H w (f ρ) (fun vs H1 => ∀ p, H1 p = none → Q (.ref p) (upd H1 p (.lst vs)))
section
variable {X : Cx} {c : Cfg} {q : Sq}
theorem lc_readN {own : List (Str × Nat)} {f : IF} {g : GF} {gt : TG} {is : List Nat} {t : TF} {fe : NF} (his : own.map (·.2) = is) (hG : TGX X.K c.cm g gt is) : ∀ σ H Q, tNN X.K c.cm c.xa c.Wx (nLc f is g t (eNew fe)) σ H Q →
    L2.tLc (fun σ H R => ∃ O ρ ph w, Run X.K c.cm c.xa O (relI X.K c.cm O) c.Wx ρ σ ph H w (f ρ) R) gt (tTX X.K c.cm c.xa noW t) (tNX X.K c.cm c.xa noW fe) (own.map (·.2)) σ H Q := fun σ H Q ⟨O, ρ, ph, w, h⟩ => by
    subst his
    have gh := h.hand
    refine ⟨O, ρ, ph, w, (Run.bind (rel := relI X.K c.cm O) h).imp fun J H1 ⟨xs, ph1, w1, e1, s1, ⟨C, hC, F⟩, h1⟩ D hD => ?_⟩
    have G1 : Grow H H1 := grow_ext e1 s1 h1.hand
    by_cases hl : xs.length ≤ line
    · simp only [if_pos hl] at h1
      obtain ⟨G, Y, hw, hCG, hY⟩ := F.walk
      obtain ⟨L0, nd⟩ := LcS.start (is := own.map (·.2)) hD h1.env h1.hand
      refine L2.lc_it hw (fun i H' => ∃ ds ph' w', LcS X.K c.cm c.xa O D (wipeE ρ (own.map (·.2))) (L2.wipe σ (own.map (·.2))) ph' w' ds i H' ∧ C H' (OO (addO O D) ph') ph' ∧ (AllL ds ∧ (∀ vs, H' D = some (.lst vs) → NewL H vs) ∧ Grow H H') ∧
        Post1 X.K c.cm O (relLN X.K c.cm O H) c.Wx σ ph' (delD H' D) (fun vs H1 => ∀ p, H1 p = none → Q (.ref p) (upd H1 p (.lst vs))) (M.bind (lcL g t (eNew fe) (wipeE ρ (own.map (·.2))) (xs.drop i)) (fun ys => M.ret (ds ++ ys)) w')) ?_ (fun i H' _ ⟨ds, ph', w', _, hC', _⟩ => hCG _ _ _ hC') ?_ ?_
      · refine ⟨[], ph1, w1, L0, F.stay hC (addO_new hD) (fun _ e => e), ⟨fun _ z => (nomatch z), fun vs e => ?_, G1.trans grow_upd⟩, ?_⟩
        · rw [upd_same] at e
          cases e
          exact ⟨List.nodup_nil, fun _ z => (nomatch z)⟩
        rw [del_upd hD, List.drop_zero]
        have e : M.bind (lcL g t (eNew fe) (wipeE ρ (own.map (·.2))) xs) (fun ys => M.ret ([] ++ ys)) = lcL g t (eNew fe) (wipeE ρ (own.map (·.2))) xs := by
          have : (fun ys : List FL.D => M.ret ([] ++ ys)) = M.ret := by funext ys; rw [List.nil_append]
          rw [this, bind_ret]
        rw [e]; exact h1.post
      · rintro i x H2 H3 hi ⟨ds, ph2, w2, L, hC2, ⟨al, nw, gr⟩, hp2⟩ y
        have ex : xs[i]? = some xs[i] := List.getElem?_eq_getElem hi
        obtain ⟨kx, rx⟩ := hY i xs[i] H2 (OO (addO O D) ph2) ph2 x H3 hC2 (fun p hpn => fresh_oo L.env.tr L.hand hpn) ex y
        have xt : Ext ph2 H2 H3 := fun b o _ e => kx b o e
        have hh3 : HandOk X.K c.cm H3 (addO O D) ph2 w2 := L.hand.keep (Ext.keep xt .refl) fun p _ o e => kx p o e
        have L3 := L.ext xt .refl hh3
        have hC3 := F.stay hC2 (Ext.keep xt .refl) (fun _ e => e)
        have hp3 := hp2.ext (del_ext (D := D) xt) .refl
        have gr3 : Grow H H3 := gr.trans (grow_all kx)
        have nD : ∀ {ph' : Option Addr} {ρ' : Env} {σ' : St} {w' : Wd} {ds' : List FL.D} {n : Nat} {H' : Hp}, LcS X.K c.cm c.xa O D ρ' σ' ph' w' ds' n H' → ph' ≠ some D := fun L => (L.env.tr D (.inr rfl)).1
        obtain ⟨vsD, hD2, _, _⟩ := L.acc
        have hD3 : H3 D = some (.lst vsD) := kx D _ hD2
        have ed : xs.drop i = xs[i] :: xs.drop (i + 1) := List.drop_eq_getElem_cons hi
        rw [ed] at hp3
        cases eg : g xs[i] (wipeE ρ (own.map (·.2))) with
        | none => unfold lcL at hp3; rw [eg] at hp3; exact (show False from hp3).elim
        | some ρ1 =>
          obtain ⟨ts, e2, hts, hq⟩ := hG rx eg
          refine hq (L2.wipe σ (own.map (·.2))) _ ?_
          refine ⟨wipe_puts fun t m => (hts t m).1, addO O D, ρ1, ph2, w2, ?_⟩
          have E3 : EnvE X.K c.cm c.xa (addO O D) H3 ph2 ρ1 (putS ts (L2.wipe σ (own.map (·.2)))) := by rw [e2]; exact L3.env.puts ts fun t m => (hts t m).2
          refine ⟨E3, hh3, ?_⟩
          cases et : t ρ1 w2 with
          | ex => rw [lcL_badt eg (by rw [et]; intro _ _ z; cases z)] at hp3; exact (show False from hp3).elim
          | bad => rw [lcL_badt eg (by rw [et]; intro _ _ z; cases z)] at hp3; exact (show False from hp3).elim
          | ok k w3 =>
            intro b H4 ph4 x4 s4 k4 eb
            cases eb
            have L4 := L3.ext x4 s4 k4
            have hC4 := F.stay hC3 (Ext.keep x4 s4) s4.m
            have hp4 := hp3.ext (del_ext (D := D) x4) (del_phs s4)
            have gr4 : Grow H H4 := gr3.trans (grow_ext x4 s4 k4)
            have hD4 : H4 D = some (.lst vsD) := x4 D _ (nD L3) hD3
            cases k with
            | false =>
              rw [lcL_false eg et] at hp4
              obtain ⟨vs, h1', h2', h3'⟩ := L4.acc
              refine ⟨ds, ph4, w3, ⟨L4.env, L4.hand, vs, h1', h2', Nat.le_succ_of_le h3'⟩, hC4, ⟨al, fun vs' e => ?_, gr4⟩, hp4⟩
              rw [hD4] at e
              cases e
              exact nw vsD hD2
            | true =>
              refine ⟨addO O D, ρ1, ph4, w3, E3.ext x4 s4, k4, ?_⟩
              cases ee : fe ρ1 w3 with
              | ex => rw [lcL_bade eg et (by unfold eNew M.bind; rw [ee]; intro _ _ z; cases z)] at hp4; exact (show False from hp4).elim
              | bad => rw [lcL_bade eg et (by unfold eNew M.bind; rw [ee]; intro _ _ z; cases z)] at hp4; exact (show False from hp4).elim
              | ok zs w5 =>
                have ee2 : eNew fe ρ1 w3 = .ok (.lst zs) w5 := by unfold eNew M.bind; rw [ee]; rfl
                rw [lcL_true eg et ee2] at hp4
                intro us H5 ph5 x5 s5 k5 rv p hpn
                have L5 := L4.ext x5 s5 k5
                have hC5 := F.stay hC4 (Ext.keep x5 s5) s5.m
                have hp5 := hp4.ext (del_ext (D := D) x5) (del_phs s5)
                have gr5 : Grow H H5 := gr4.trans (grow_ext x5 s5 k5)
                have hD5 : H5 D = some (.lst vsD) := x5 D _ (nD L4) hD4
                -- the new list
                have xp : Ext ph5 H5 (upd H5 p (.lst us)) := ext_new hpn
                have kp : HandOk X.K c.cm (upd H5 p (.lst us)) (addO O D) ph5 w5 := k5.new hpn
                have L6 := L5.ext xp .refl kp
                have hC6 := F.stay hC5 (Ext.keep xp .refl) (fun _ e => e)
                have hp6 := hp5.ext (del_ext (D := D) xp) .refl
                have nf : ¬ OO (addO O D) ph5 p := fresh_oo L5.env.tr L5.hand hpn
                have rp : Rep X.K c.cm (upd H5 p (.lst us)) (OO (addO O D) ph5) ph5 (.lst zs) (.ref p) := by
                  simp only [Rep]
                  exact ⟨p, us, rfl, ⟨nf, upd_same⟩, rv.keep (Ext.keep xp .refl) (fun _ e => e) zs us⟩
                obtain ⟨vs, h1', h2', h3'⟩ := L6.acc
                have pD : D ≠ p := fun z => by rw [z, hpn] at hD5; cases hD5
                have hvs : vs = vsD := by
                  rw [upd_ne pD, hD5] at h1'
                  cases h1'; rfl
                subst hvs
                have dup : ∀ (u : V), upd (upd H5 p (.lst us)) D (.lst (vs ++ [u])) D = some (.lst (vs ++ [u])) := fun u => upd_same
                obtain ⟨vs5, g1, g2, _⟩ := L5.acc
                have hv5 : vs5 = vs := by rw [hD5] at g1; cases g1; rfl
                subst hv5
                refine ⟨vs5, h1', by rw [sizeLine_eq]; unfold line at hl; omega, ds ++ [.lst zs], ph5, w5, L6.app nd h1' h2' h3' rp, F.stay hC6 addO_upd (fun _ e => e), ⟨fun d hd => ?_, fun vs' e => ?_, (gr5.trans grow_upd).trans grow_upd⟩, ?_⟩
                · rcases List.mem_append.mp hd with hd | hd
                  · exact al d hd
                  · exact ⟨zs, List.mem_singleton.mp hd⟩
                · rw [upd_same] at e
                  cases e
                  exact (nw vs5 hD2).snoc al g2 hpn (gr5 p hpn)
                have e9 : delD (upd (upd H5 p (.lst us)) D (.lst (vs5 ++ [.ref p]))) D = delD (upd H5 p (.lst us)) D := by
                  funext b
                  by_cases z : b = D
                  · subst z; rw [delD_same, delD_same]
                  · rw [delD_ne z, delD_ne z, upd_ne z]
                rw [e9]
                have e10 : (fun ys : List FL.D => M.ret (ds ++ .lst zs :: ys)) = fun ys => M.ret (ds ++ [.lst zs] ++ ys) := by
                  funext ys
                  rw [List.append_assoc]; rfl
                rw [e10] at hp6
                exact hp6
      · rintro H2 ⟨ds, ph2, w2, L, hC2, ⟨al, nw, gr⟩, hp2⟩
        rw [List.drop_length] at hp2
        have hp3 : Post1 X.K c.cm O (relLN X.K c.cm O H) c.Wx σ ph2 (delD H2 D) (fun vs H1 => ∀ p, H1 p = none → Q (.ref p) (upd H1 p (.lst vs))) (.ok ds w2) := by
          have e : M.bind (lcL g t (eNew fe) (wipeE ρ (own.map (·.2))) []) (fun ys => M.ret (ds ++ ys)) w2 = .ok ds w2 := by
            show R.ok (ds ++ []) w2 = _
            rw [List.append_nil]
          rw [← e]; exact hp2
        obtain ⟨vs, h1', h2', _⟩ := L.acc
        have nph : ph2 ≠ some D := (L.env.tr D (.inr rfl)).1
        have := hp3 vs (delD H2 D) ph2 .refl .refl (L.hand.keep addO_keep fun p e u z => by rw [delD_ne (fun y => nph (by rw [← y]; exact e))]; exact z) ⟨h2'.keep addO_keep (fun _ e => e) ds vs, al, nw vs h1'⟩ D delD_same
        rw [upd_del h1'] at this
        exact this
    · simp only [if_neg hl] at h1; exact h1.no
end
/-- x = [[..] for ..] -/
def sNest (i : Nat) (f : NF) : SF := fun ρ w => onE (f ρ) ρ w fun ds w' => .nx (ρ.set i (.nest ds)) w'
section
variable {K : PySem.W.Frag} {cm : Nat → Addr} {xa : Option (Addr × Nat × Addr)} {q : Sq} {ρ : Env} {σ : St} {H : Hp} {ph : Option Addr} {w : Wd}
theorem StS.old (h : StS K cm xa q ρ ph w σ H) {p : Addr} (hp : H p = none) : q.B p = none := by
  have nph : ph ≠ some p := fun e => by
    obtain ⟨vs, z⟩ := h.hand.tr e
    rw [hp] at z; cases z
  cases e : q.B p with
  | none => rfl
  | some o =>
    by_cases z : q.ph0 = some p
    · rcases h.phs with y | ⟨y, _⟩
      · exact absurd (y.trans z) nph
      · rw [y] at z; cases z
    · rw [h.base p o z e] at hp; cases hp
end
section
variable {X : Cx} {c : Cfg} {q : Sq}
theorem nest_tail {D : Ends} {ρ : Env} {σ : St} {H0 H1 : Hp} {ph0 ph1 : Option Addr} {w0 w1 : Wd} {i : Nat} {ds : List FL.D} {vs : List V} {p : Addr} (h0 : StS X.K c.cm c.xa q ρ ph0 w0 σ H0) (h1 : StS X.K c.cm c.xa q ρ ph1 w1 σ H1) (r : RepL X.K c.cm H1 (NN q ρ σ ph1) ph1 ds vs) (al : AllL ds) (nw : NewL H0 vs) (hpn : H1 p = none)
    (hp1 : Post2 X.K c.cm c.xa q c.Wx D H1 (NN q ρ σ ph1) ph1 (.nx (ρ.set i (.nest ds)) w1)) : D.nx (σ.set i (some (.ref p))) (upd H1 p (.lst vs)) := by
  have x : Ext ph1 H1 (upd H1 p (.lst vs)) := ext_new hpn
  have h2 := h1.ext x .refl (h1.hand.new hpn)
  have nf : ¬ NN q ρ σ ph1 p := fresh_oo h1.env.tr h1.hand hpn
  have rp : Rep X.K c.cm (upd H1 p (.lst vs)) (NN q ρ σ ph1) ph1 (.lst ds) (.ref p) := by
    simp only [Rep]
    exact ⟨p, vs, rfl, ⟨nf, upd_same⟩, r.keep (Ext.keep x .refl) (fun _ e => e) ds vs⟩
  have h3 := h2.setvn (i := i) (s := .nest ds) (x := some (.ref p)) (fun _ z => by cases z) (fun ds' v z1 z2 => by
    cases z1
    cases z2
    refine ⟨p, vs, rfl, h1.old hpn, upd_same, fun k xs e => ?_⟩
    obtain ⟨v, ev, rv⟩ := r.get e
    obtain ⟨b, eb, hb⟩ := nw.2 v (List.mem_of_getElem? ev)
    subst eb
    refine ⟨b, ev, h0.old hb, fun j ej => ?_⟩
    exact nd_inj nw.1 ev ej) ⟨.ref p, rfl, rp⟩
  exact hp1 _ _ ph1 h3 ((Ext.keep x .refl).kp.trans (keep_set fun _ z => by cases z).kp)
variable {i : Nat} {y : Str} {py : Pos} {elt tg iter : Expr} {ifs : List Expr} {scope : Scope} {own : List (Str × Nat)} {pos spos : Pos} {f : IF} {g : GF} {gt : TG} {is : List Nat} {t : TF} {fe : NF}
theorem psx_nestLc (hc : X.calm = true) (hN : X.N.Nodup) (hy : X.N[i]? = some y) (hyl : X.env.scope.names.lookup y = some .local) (hsw : swapsWith (.ListComp elt [⟨tg, iter, ifs, 0⟩] scope pos) (some (.Name y py)) spos.line X.env = pure true)
    (hi : PIX X c tg iter f) (ok : L2.BlkOk X.N X.env.scope scope own) (his : own.map (·.2) = is) (hg : ∀ (s : Shared) (H : Hp) (C : Addr) (cl : List (Str × Addr)) (fp : List Addr), PG (X.blk s H scope (compEnvC scope cl C X.env) fp) tg gt) (hG : TGX X.K c.cm g gt is)
    (ht : ∀ (s : Shared) (H : Hp) (C : Addr) (cl : List (Str × Addr)) (fp : List Addr), PTSX (X.blk s H scope (compEnvC scope cl C X.env) fp) ⟨c.cm, c.xa, noW⟩ ifs t)
    (he : ∀ (s : Shared) (H : Hp) (C : Addr) (cl : List (Str × Addr)) (fp : List Addr), PNX (X.blk s H scope (compEnvC scope cl C X.env) fp) ⟨c.cm, c.xa, noW⟩ elt fe) (hs : ∀ x, foldedSetIterable iter X.env x = pure x := by intro _; rfl) :
    PSX X c q (.Assign [.Name y py] (.ListComp elt [⟨tg, iter, ifs, 0⟩] scope pos) spos) (sNest i (nLc f is g t (eNew fe))) :=
  PS.to (L2.ps_setLc hc hN hy hyl hsw hi ok hg ht he hs) fun D σ H ⟨ρ, ph, w, h, hp⟩ => by
    have rr : Run X.K c.cm c.xa (OwnS q.O0 ρ σ) (relLN X.K c.cm (OwnS q.O0 ρ σ) H) c.Wx ρ σ ph H w (nLc f is g t (eNew fe) ρ) _ := onE_run h hp
    exact lc_readN his hG σ H _ ⟨_, ρ, ph, w, rr.imp fun vs H1 ⟨ds, ph1, w1, ⟨r, al, nw⟩, h1, k, hp1⟩ p hpn => nest_tail h h1 r al nw hpn hp1⟩
end
end FL

/-! F34: stores into lists of the outermost def's own making; the ends of such defs. -/
namespace FL
open PySem
open L2 (It V Hp HO Cx Inv VK XK TE TT TA TS TI TG PE PT PA PS PSs PI PG Ends WX RelV Vals Rd upd upd_same upd_ne ne_of_none EP TP AP OpR R2 CallR FnOk Room Binds)
/-! ### for over range, where nothing is promised of what stood -/
abbrev relR (K : PySem.W.Frag) (cm : Nat → Addr) : Hp → Option Addr → List D → It → Prop := fun _ _ xs J => Feeds K cm J xs (fun _ _ _ => True)
abbrev PIRX (X : Cx) (c : Cfg) (tg iter : Expr) (f : IF) : Prop := PI X tg iter (fun σ H R => ∃ O ρ ph w, Run X.K c.cm c.xa O (relR X.K c.cm) c.Wx ρ σ ph H w (f ρ) R)
section
variable {X : Cx} {c : Cfg} {q : Sq} {pos : Pos} {K : PySem.W.Frag} {cm : Nat → Addr} {O : NS} {H : Hp} {ph : Option Addr} {w : Wd} {Wx : WX} {ρ : Env} {σ : St}
theorem range_runR {xa O Wx ρ σ ph H w} {R : It → Hp → Prop} {d1 d2 : D} {v1 v2 : V} (r1 : Rep K cm H (OO O ph) ph d1 v1) (r2 : Rep K cm H (OO O ph) ph d2 v2) (h : Run K cm xa O (relR K cm) Wx ρ σ ph H w (rangeM d1 d2) R) :
    ∃ i j : Int, v1 = .int i ∧ v2 = .int j ∧ (-(2 ^ 62) ≤ i ∧ i < 2 ^ 62 ∧ -(2 ^ 62) ≤ j ∧ j < 2 ^ 62) ∧ R (L2.Itr i (j - i).toNat) H := by
  cases d1 <;> cases d2 <;> try exact h.no
  rename_i i j
  by_cases hb : (near i && near j) = true
  · simp only [rangeM, if_pos hb] at h
    have hc : -(2 ^ 62) ≤ i ∧ i < 2 ^ 62 ∧ -(2 ^ 62) ≤ j ∧ j < 2 ^ 62 := by
      rw [Bool.and_eq_true] at hb
      exact ⟨(near_of hb.1).1, (near_of hb.1).2, (near_of hb.2).1, (near_of hb.2).2⟩
    exact ⟨i, j, int_of r1, int_of r2, hc, h.ret feeds_range⟩
  · simp only [rangeM, if_neg hb] at h; exact h.no
theorem pirx_range2 {tg a b : Expr} {fa fb : EF} {p : Pos} (hg : L2.Gl X "range") (hm : X.mg "range" = none) (ha : PX X c a fa) (hb : PX X c b fb) (hs : starEach [a, b] X.env = [(false, eval a X.env), (false, eval b X.env)] := by rfl) (hs2 : starEach [b] X.env = [(false, eval b X.env)] := by rfl)
    (he : starEach (a :: [b]) X.env = (false, eval a X.env) :: starEach [b] X.env := by rfl) (he2 : starEach (b :: []) X.env = (false, eval b X.env) :: starEach [] X.env := by rfl) :
    PIRX X c tg (.Call (.Name "range" p) [a, b] [] pos) (iRng fa fb) :=
  PI.to (L2.pi_range2 hg hm (L2.pa_cons ha (L2.pa_cons hb L2.pa_nil he2) he) hs hs2) fun σ H R ⟨O, ρ, ph, w, h⟩ => ⟨O, ρ, ph, w, (Run.bind (rel := relV X.K c.cm O) h).imp fun v H1 ⟨d, ph1, w1, e1, s1, r1, h1⟩ => ⟨O, ρ, ph1, w1, (Run.bind (rel := relV X.K c.cm O) h1).imp fun v2 H2 ⟨d2, ph2, w2, e2, s2, r2, h2⟩ => by
    obtain ⟨i, j, rfl, rfl, hb, q⟩ := range_runR (Rep.keep (Ext.keep e2 s2) s2.m d v r1) r2 h2
    exact ⟨i, j, rfl, hb, q⟩⟩⟩
theorem pirx_range1 {tg a : Expr} {fa : EF} {p : Pos} (hg : L2.Gl X "range") (hm : X.mg "range" = none) (ha : PX X c a fa) (hs : starEach [a] X.env = [(false, eval a X.env)] := by rfl) (he : starEach (a :: []) X.env = (false, eval a X.env) :: starEach [] X.env := by rfl) :
    PIRX X c tg (.Call (.Name "range" p) [a] [] pos) (iRng (eC (.int 0)) fa) :=
  PI.to (L2.pi_range1 hg hm (L2.pa_cons ha L2.pa_nil he) hs) fun σ H R ⟨O, ρ, ph, w, h⟩ => by
    have h' : Run X.K c.cm c.xa O (relR X.K c.cm) c.Wx ρ σ ph H w (M.bind (fa ρ) fun y => rangeM (.int 0) y) R := h
    refine ⟨O, ρ, ph, w, (Run.bind (rel := relV X.K c.cm O) h').imp fun v2 H2 ⟨d2, ph2, w2, e2, s2, r2, h2⟩ => ?_⟩
    obtain ⟨i, j, ei, rfl, hb, q⟩ := range_runR (v1 := .int 0) (by simp [Rep]) r2 h2
    cases ei
    refine ⟨j, rfl, hb.2.2.1, hb.2.2.2, ?_⟩
    have e0 : j - 0 = j := Int.sub_zero j
    rw [e0] at q; exact q

theorem psy_for {tg iter : Expr} {body : List Stmt} {f : IF} {g : GF} {gt : TG} {is : List Nat} {b : SF} (hp : PassesOwn (model X.prog X.w) X.A X.env X.xe) (hc : X.calm = true) (hi : PIRX X c tg iter f) (hg : PG X tg gt) (hG : TGX X.K c.cm g gt is) (hb : PSSY X c q body b)
    (hs : ∀ x, foldedSetIterable iter X.env x = pure x := by intro _; rfl) : PSY X c q (.For tg iter body [] pos) (sFor f g b) :=
  PS.to (L2.ps_for hp hc hi hg hb hs) fun D σ H ⟨ρ, ph, w, h, hpo⟩ => by
    refine ⟨_, ρ, ph, w, (onE_run3 (rel := relR X.K c.cm) h hpo).imp fun J H1 ⟨xs, ph1, w1, F, h1, hp1⟩ => ?_⟩
    obtain ⟨G, Y, hw, hCG, hY⟩ := F.walk
    refine L2.for_it hw (fun i σ' H' => ∃ ρ' ph' w', StS X.K c.cm c.xa q ρ' ph' w' σ' H' ∧ Post3 X.K c.cm c.xa q c.Wx D (forL g b (xs.drop i) ρ' w')) ⟨ρ, ph1, w1, h1, hp1⟩ (fun i σ' H' _ _ => hCG H' (fun _ => False) none trivial) ?_ ?_
    · rintro i x σ2 H2 H3 hi ⟨ρ2, ph2, w2, h2, hp2⟩ y
      have ex : xs[i]? = some xs[i] := List.getElem?_eq_getElem hi
      obtain ⟨kx, rx⟩ := hY i xs[i] H2 (NN q ρ2 σ2 ph2) ph2 x H3 trivial (fun p hpn => fresh_oo h2.env.tr h2.hand hpn) ex y
      have xt : Ext ph2 H2 H3 := fun b o _ e => kx b o e
      have hh3 : HandOk X.K c.cm H3 (OwnS q.O0 ρ2 σ2) ph2 w2 := h2.hand.keep (Ext.keep xt .refl) fun p _ o e => kx p o e
      have h3 := h2.ext xt .refl hh3
      have ed : xs.drop i = xs[i] :: xs.drop (i + 1) := List.drop_eq_getElem_cons hi
      rw [ed] at hp2
      cases eg : g xs[i] ρ2 with
      | none => rw [forL_none eg] at hp2; exact (show False from hp2).elim
      | some ρ3 =>
        rw [forL_cons eg] at hp2
        obtain ⟨ts, rfl, ht, hq⟩ := hG rx eg
        obtain ⟨h4, k4⟩ := StS.puts ts (fun t m => (ht t m).2) h3
        refine hq σ2 _ ⟨_, ph2, w2, h4, ?_⟩
        revert hp2
        cases eb : b (putE ts ρ2) w2 with
        | nx ρ5 w5 => exact fun hp4 σ5 H5 ph5 h5 => ⟨ρ5, ph5, w5, h5, hp4⟩
        | ct ρ5 w5 => exact fun hp4 σ5 H5 ph5 h5 => ⟨ρ5, ph5, w5, h5, hp4⟩
        | bk ρ5 w5 => exact fun hp4 => hp4
        | rt d w5 => exact fun hp4 => hp4
        | ex c ns xs ρ5 w5 => exact fun hp4 => hp4
        | bad => exact fun hp4 => hp4
    · rintro σ2 H2 ⟨ρ2, ph2, w2, h2, hp2⟩
      rw [List.drop_length] at hp2
      exact hp2 σ2 H2 ph2 h2
end
/-! ### x[k] = e, x any list, in a def that met no list at its entry -/
def pTS (i n : Nat) (xs : List D) (d : D) (ρ : Env) (w : Wd) : SR :=
  if (noT xs d && noTL xs xs && okT xs ρ w) = true then .nx ((wipT xs ρ).set i (.val (.lst (xs.set n d)))) w else .bad
def pTK (i : Nat) (ρ : Env) : List D → Wd → SR
  | [d, .int k], w => (match ρ[i]? with
    | some (.val (.lst xs)) => (match ixP xs.length k with
      | some n => pTS i n xs d ρ w
      | none => .bad)
    | _ => .bad)
  | _, _ => .bad
theorem pTK_cases (i : Nat) (ρ : Env) (zs : List D) (w : Wd) : pTK i ρ zs w = .bad ∨ ∃ d k xs n, zs = [d, .int k] ∧ ρ[i]? = some (.val (.lst xs)) ∧ ixP xs.length k = some n ∧ pTK i ρ zs w = pTS i n xs d ρ w := by
  unfold pTK
  split
  · rename_i d k
    split
    · rename_i xs e
      split
      · rename_i n e4
        exact .inr ⟨d, k, xs, n, rfl, e, e4, rfl⟩
      · exact .inl rfl
    · exact .inl rfl
  · exact .inl rfl
def sPutT (i : Nat) (fk fe : EF) : SF := fun ρ w => match ρ[i]? with
  | some (.val (.lst _)) => onE (M.bind (fe ρ) fun d => M.bind (fk ρ) fun k => M.ret [d, k]) ρ w (pTK i ρ)
  | _ => .bad
section
variable {K : PySem.W.Frag} {cm : Nat → Addr} {xa : Option (Addr × Nat × Addr)} {q : Sq} {ρ : Env} {σ : St} {H : Hp} {ph : Option Addr} {w : Wd} {Wx : WX} {D : Ends}
theorem putT_end (dis : Dis K H) {i n : Nat} {xs : List FL.D} {d : FL.D} {b : Addr} {us : List V} {v : V} (nl : ∀ a us, q.B a ≠ some (.lst us)) (h : StS K cm xa q ρ ph w σ H) (e0 : ρ[i]? = some (.val (.lst xs))) (e1 : σ[i]? = some (some (.ref b))) (nb : ¬ NN q ρ σ ph b) (hb : H b = some (.lst us)) (rx : RepL K cm H (NN q ρ σ ph) ph xs us)
    (r : Rep K cm H (NN q ρ σ ph) ph d v) (post : Post3 K cm xa q Wx D (pTS i n xs d ρ w)) : D.nx σ (upd H b (.lst (us.set n v))) := by
  unfold pTS at post
  by_cases c : (noT xs d && noTL xs xs && okT xs ρ w) = true
  · rw [if_pos c] at post
    simp only [Bool.and_eq_true] at c
    obtain ⟨⟨c1, c2⟩, c5⟩ := c
    have Bb : q.B b = none := by
      cases e : q.B b with
      | none => rfl
      | some o =>
        by_cases z : q.ph0 = some b
        · rcases h.phs with y | ⟨y, _⟩
          · exact absurd (.inr (y.trans z)) nb
          · rw [y] at z; cases z
        · have := h.base b o z e
          rw [hb] at this
          cases this
          exact absurd e (nl b us)
    have S := h.put dis (us' := us.set n v) nb hb rx Bb c5
    have hlen : i < ρ.length := (List.getElem?_eq_some_iff.mp e0).1
    have es : σ.set i (some (.ref b)) = σ := by
      apply List.ext_getElem?
      intro j
      by_cases hj : i = j
      · subst hj
        have hiσ : i < σ.length := by rw [h.env.len]; exact hlen
        rw [List.getElem?_set_self hiσ, e1]
      · rw [List.getElem?_set_ne hj]
    have S2 := S.setd (i := i) (d := .lst (xs.set n d)) (v := .ref b) (by
      rw [nn_wipT]
      simp only [Rep]
      exact ⟨b, us.set n v, rfl, ⟨nb, upd_same⟩, RepL.set (repl_upd dis hb rx xs us c2 rx) (rep_upd dis hb rx d v c1 r)⟩)
    rw [es] at S2
    exact post σ _ ph S2
  · rw [if_neg c] at post; exact (show False from post).elim
end
section
variable {X : Cx} {c : Cfg} {q : Sq} {pos : Pos}
theorem psy_putT (i : Nat) {x : Str} {p0 p2 : Pos} {k e : Expr} {fk fe : EF} (nl : ∀ a us, q.B a ≠ some (.lst us)) (he : PX X c e fe)
    (hg : PG X (.Subscript (.Name x p0) k p2) (L2.gSub (L2.tVar i) (tX X.K c.cm c.xa c.Wx fk) (rDis X.K L2.rSetL))) (hs : swapsWithSole [.Subscript (.Name x p0) k p2] e pos.line X.env = pure false := by rfl) (hw : swappedStores [.Subscript (.Name x p0) k p2] e X.env = pure none := by rfl)
    (h1 : (assignEach [.Subscript (.Name x p0) k p2] X.env).map (·.2) = [assign (.Subscript (.Name x p0) k p2) X.env] := by rfl) : PSY X c q (.Assign [.Subscript (.Name x p0) k p2] e pos) (sPutT i fk fe) :=
  PS.to (L2.ps_asg he hg hs hw h1) fun D σ H ⟨ρ, ph, w, h, hp⟩ => by
    have go : ∀ xs, ρ[i]? = some (.val (.lst xs)) → sPutT i fk fe ρ w = onE (M.bind (fe ρ) fun d => M.bind (fk ρ) fun k => M.ret [d, k]) ρ w (pTK i ρ) := fun xs e => by unfold sPutT; rw [e]
    cases e0 : ρ[i]? with
    | none => unfold sPutT at hp; rw [e0] at hp; exact (show False from hp).elim
    | some sl =>
      by_cases hl : ∃ xs, sl = .val (.lst xs)
      · obtain ⟨xs, rfl⟩ := hl
        rw [go xs e0] at hp
        have r0 := onE_run3 (rel := relL X.K c.cm (OwnS q.O0 ρ σ)) h hp
        refine ⟨_, ρ, ph, w, (Run.bind (rel := relV X.K c.cm (OwnS q.O0 ρ σ)) r0).imp fun v H1 ⟨d, ph1, w1, e1, s1, r1, h1⟩ => ?_⟩
        obtain ⟨v0, f1, f2⟩ := h1.env.val e0
        obtain ⟨p, vs0, rfl, ⟨np, hv1⟩, _⟩ := lst_of f2
        refine ⟨.ref p, f1, _, ρ, ph1, w1, (Run.bind (rel := relV X.K c.cm (OwnS q.O0 ρ σ)) h1).imp fun kv H3 ⟨kd, ph3, w3, e3, s3, r3, h3⟩ => ?_⟩
        have k3 := Ext.keep (O := OwnS q.O0 ρ σ) e3 s3
        obtain ⟨zs, ph4, w4, rz, st, hp4⟩ := h3.ret (b := [v, kv]) (RepL.cons (Rep.keep k3 s3.m d v r1) (RepL.cons r3 RepL.nil))
        rcases pTK_cases i ρ zs w4 with z | ⟨d', k', xs', n, rfl, e5, e8, z⟩
        · rw [z] at hp4; exact (show False from hp4).elim
        · rw [z] at hp4
          rw [e0] at e5; cases e5
          obtain ⟨_, _, y1, q1, q2⟩ := RepL.uncons rz
          cases y1
          obtain ⟨_, _, y1, q3, q4⟩ := q2.uncons
          cases y1
          cases int_of q3
          obtain ⟨v5, t1, t2⟩ := st.env.val e0
          rw [f1] at t1; cases t1
          obtain ⟨b, us, eb, ⟨nb, hb⟩, rx⟩ := lst_of t2
          cases eb
          exact fun dis => ⟨p, us, k', n, rfl, rfl, hb, by rw [ixP_eq, ← rx.length]; exact e8, putT_end dis nl st e0 f1 nb hb rx q1 hp4⟩
      · have : sPutT i fk fe ρ w = .bad := by
          unfold sPutT
          rw [e0]
          split
          · rename_i xs z; cases z; exact absurd ⟨_, rfl⟩ hl
          · rfl
        rw [this] at hp
        exact (show False from hp).elim
end
/-! ### the ends of such defs -/
section
variable {P : Program} {w : World} {K : PySem.W.Frag} {mg : Str → Option Value} {base : Heap} {cm : Nat → Addr}
theorem fn_okY {x qual : Str} {params : Arguments} {body : List Stmt} {scope : Scope} {dvs : List V} {kws : List (Str × V)} {f : Addr} {fd : FuncData} {N ps : List Str} {k : Nat} {b : SF} (F : L2.FunD K x qual params body scope dvs kws f fd) (S : L2.FnScope N ps scope)
    (hn : ps.length ≤ N.length)
    (hb : ∀ (cdv : Value) (A : Around) (outer : List PySem.Env) (s : Shared) (H : Hp) (E : XK) (q : Sq), Room k (A.deeper (PyProof.Rows.envOfC qual scope s.heap.objs.size f cdv)) →
      PSSY (L2.cxOf (L2N.CX P w) P w K mg base N qual scope f cdv A outer s H E) ⟨cm, none, fun cls d _ H' => E cls d H'⟩ q body b) :
    FnOk P w K mg base (L2N.CX P w) (k + 1) f fd ps (spX K cm ps.length (callF N.length b)) := by
  refine F.ok S (fun vs H Q E h => h.1) fun cdv A outer s H vs Q E hr h => ?_
  obtain ⟨hl, O, ds, ph, wd, tr, hand, r, post⟩ := h
  refine ⟨_, hb cdv A outer s H E ⟨H, O, ph⟩ hr, vals ds ++ List.replicate (N.length - ds.length) Slot.none, ph, wd, start_sts (by rw [r.length, hl]; exact hn) tr hand r, ?_⟩
  unfold callF at post
  cases e : b (vals ds ++ List.replicate (N.length - ds.length) Slot.none) wd with
  | nx ρ' w' =>
    rw [e] at post
    intro σ' H' ph' s1
    exact post .non H' ph' s1.base s1.phs (s1.hand.less fun _ z => .inl z) (by simp [Rep])
  | rt d w' =>
    rw [e] at post
    intro v H' ph' x1 s1 hk rv
    exact post v H' ph' x1 s1 hk rv
  | ex c ns xs ρ' w' =>
    rw [e] at post
    intro σ' H' ph' dd vs s1 hd l rv
    exact post dd H' ph' vs s1.base s1.phs (s1.hand.less fun _ z => .inl z) hd l (rv.keep (Keep.less (OO.mono fun _ z => .inl z)) (fun _ e => e) xs vs)
  | bk ρ' w' => rw [e] at post; exact (show False from post).elim
  | ct ρ' w' => rw [e] at post; exact (show False from post).elim
  | bad => rw [e] at post; exact (show False from post).elim
theorem has_ofY {x : Str} {st : Stmt} {N ps : List Str} {k m n : Nat} {b : SF} (hd : ∃ f fd, DefAt K mg x st [] f fd) (S : L2.FnScope N ps (L2.defScope st)) (hps : ps.length = m) (hN : N.length = n) (hmn : m ≤ n)
    (hb : ∀ (kV doc pm : Value) (an : Option Addr) (cdv ct : Value) (us : List Value), us.length = ps.length → bindArgs (PySem.W.fnOf x x (L2.defArgs st) (L2.defBody st) (L2.defScope st) .none kV doc pm an cdv ct) ⟨us, []⟩ = pure (ps.zip us))
    (body : ∀ (f : Addr) (cdv : Value) (A : Around) (outer : List PySem.Env) (s : Shared) (H : Hp) (E : XK) (q : Sq), Room k (A.deeper (PyProof.Rows.envOfC x (L2.defScope st) s.heap.objs.size f cdv)) →
      PSSY (L2.cxOf (L2N.CX P w) P w K mg base N x (L2.defScope st) f cdv A outer s H E) ⟨cm, none, fun cls d _ H' => E cls d H'⟩ q (L2.defBody st) b) :
    Has P w K mg base cm x (k + 1) ps [[]] [] m (callF n b) := by
  obtain ⟨f, fd, hm, F⟩ := hd
  subst hps hN
  have G := fn_okY F S hmn fun cdv A outer s H E q hr => body f cdv A outer s H E q hr
  exact ⟨⟨f, fd, hm, F.kp, G, fun dds hm => by
    rw [List.mem_singleton.mp hm]
    exact ⟨[], [], F.bindsN hb, .nil, RepL.nil⟩, fun e he => by cases he⟩, lk_of hm (held_of F) G⟩
end
/-- .. where no list stands at the entry -/
def spXT (K : PySem.W.Frag) (cm : Nat → Addr) (m : Nat) (F : List D → M D) : L2.Sp := fun vs H Q E => (∀ a us, H a ≠ some (.lst us)) ∧ spX K cm m F vs H Q E
section
open PySem.Spec PyProof.Rows
variable {P : Program} {w : World} {K : PySem.W.Frag} {mg : Str → Option Value} {base : Heap} {cm : Nat → Addr}
theorem top_ofY {x qual y : Str} {params : Arguments} {body : List Stmt} {scope : Scope} {f : Addr} {fd : FuncData} {N : List Str} {k : Nat} {b : SF} (F : L2.FunD K x qual params body scope [] [] f fd) (S : L2.FnScope N [y] scope) (hn : 1 ≤ N.length) (room : Room (k + 1) callerA)
    (hb : ∀ (cdv : Value) (t : Shared) (G : Hp) (B : XK) (q : Sq), (∀ a us, q.B a ≠ some (.lst us)) → Room k (callerA.deeper (envOfC qual scope t.heap.objs.size f cdv)) →
      PSSY (L2.cxOf (L2N.CX P w) P w K mg base N qual scope f cdv callerA [] t G B) ⟨cm, none, fun cls d _ G' => B cls d G'⟩ q body b) :
    TopOk P w K mg base f fd y (spXT K cm 1 (callF N.length b)) := by
  obtain ⟨oc, od, dV, kV, doc, pm, an, cdv, ct, osl, rfl, lk, code, _, _⟩ := F.ex
  refine ⟨fun t G z v R B start bind rv sp => ?_⟩
  have here : ∀ a o, base.get? a = some o → t.heap.get? a = some o := fun a o e => (start.bs a o e).1
  have frag : K.In t.heap := start.mod.kin.keeps here
  have one : ∀ yz ∈ [y].zip [z], scope.names.lookup yz.1 = some .local ∨ (scope.names.lookup yz.1 = some .cell ∧ ((cellsFrom (t.heap.objs.size + 1) scope.names []).lookup yz.1).isSome = true) := by
    rintro ⟨n, u⟩ m
    rcases S.par n (List.of_mem_zip m).1 with l | l
    · exact .inl l
    · exact .inr ⟨l, PySem.W.cellsFrom_some _ _ _ (.inl l)⟩
  refine codeAny_call_function room.depth (frag _ _ lk) rfl S.co S.gen rfl (PySem.W.codeRec_of frag code) (bind _ _ _ _ ?_)
  refine wpAny_newFunctionEnv_cells S.kind one fun env same t1 enter => ?_
  subst same
  refine ⟨(start.mod.nolimit.keeps here).keeps enter.toInCall.keep, codeAny_func ?_⟩
  obtain ⟨nl, _, O, ds, ph, wd, tr, hand, r, post⟩ := sp
  have go := hb cdv t G B ⟨G, O, ph⟩ nl (room.deeper _)
  have first : Inv (L2.cxOf (L2N.CX P w) P w K mg base N qual scope f cdv callerA [] t G B) [] (L2.start N [v]) G t1 := L2.inv_start S room.hd start rfl (.cons rv .nil) enter
  have len : ds.length = 1 := r.length
  refine wpAny_mono (go.run [] t1 (L2.start N [v]) G { nx := fun _ G' => R .non G', rt := R } first ⟨vals ds ++ List.replicate (N.length - ds.length) Slot.none, ph, wd, start_sts (by omega) tr hand r, ?_⟩) (fun fl t2 out => ?_) fun e t2 out => out
  · unfold callF at post
    cases e : b (vals ds ++ List.replicate (N.length - ds.length) Slot.none) wd with
    | nx ρ' w' =>
      rw [e] at post
      intro σ' H' ph' s1
      exact post .non H' ph' s1.base s1.phs (s1.hand.less fun _ z => .inl z) (by simp [Rep])
    | rt d w' =>
      rw [e] at post
      intro u H' ph' x1 s1 hk rv
      exact post u H' ph' x1 s1 hk rv
    | ex c ns xs ρ' w' =>
      rw [e] at post
      intro σ' H' ph' dd us s1 hd l rv
      exact post dd H' ph' us s1.base s1.phs (s1.hand.less fun _ z => .inl z) hd l (rv.keep (Keep.less (OO.mono fun _ z => .inl z)) (fun _ e => e) xs us)
    | bk ρ' w' => rw [e] at post; exact (show False from post).elim
    | ct ρ' w' => rw [e] at post; exact (show False from post).elim
    | bad => rw [e] at post; exact (show False from post).elim
  · have done : ∀ {σ2 : St} {G2 : Hp} {v2 : V} {u2 : Value}, Inv (L2.cxOf (L2N.CX P w) P w K mg base N qual scope f cdv callerA [] t G B) [] σ2 G2 t2 → RelV v2 u2 → R v2 G2 → L2.CE [] P w G t R u2 t2 :=
      fun {σ2 G2 v2 u2} J rel qq => ⟨v2, G2, J.os, J.bare, J.base, J.hok, rel, qq⟩
    cases fl with
    | next =>
      obtain ⟨σ2, G2, J, qq⟩ := out
      exact done (v2 := V.non) (u2 := Value.none) J rfl qq
    | ret u =>
      obtain ⟨v2, σ2, G2, J, rel, qq⟩ := out
      exact done J rel qq
    | brk => exact (show False from out.elim fun _ z => z.elim fun _ z => z.2).elim
    | cont => exact (show False from out.elim fun _ z => z.elim fun _ z => z.2).elim
end
section
open PySem.Spec PySem.W PySem.Calls PyProof.Rows
variable {P : Program} {w : World} {K : PySem.W.Frag} {mg mb : Str → Option Value} {f a : Addr} {fd : FuncData} {x : Str} {sp : L2.Sp} {t : Shared} {us : List Value} {ms : List Int}
theorem top_callY (frag : K.In t.heap) (gl : t.heap.Ns mainGlobals mg) (bl : t.heap.Ns builtinsNs mb) (bb : ∀ y : Str, y ≠ "__name__" → mb y = bootBuiltins y) (nolim : t.heap.NoLimit) (gens : t.gens = #[])
    (obj : t.heap.get? a = some { cls := .type "list", data := .seq us.toArray }) (i : IntsAre us ms) (l : ms.length ≤ sizeLine)
    (F : ∀ base : Heap, K.In base → base.Ns mainGlobals mg → TopOk P w K mg base f fd x sp) (bind : ∀ (t : Shared) (z : Value), BindsTo t fd ⟨[z], []⟩ [(x, z)])
    (promise : ∀ G : Hp, L2.Only G → L2.SqL K G a (ms.map V.int) → sp [.ref a] G (fun v _ => v = .bl true) fun _ _ _ => False) :
    codeAny (model P w) callerA (.call (.ref f) ⟨[.ref a], []⟩) (fun r t' => r = .ok (.ret (.bool true)) ∧ OldK t.heap t'.heap ∧ t'.os = t.os ∧ AllBare t'.gens) t := by
  obtain ⟨G, S⟩ := scr_of (P := P) (w := w) frag obj i l
  have free : ∀ {b : Addr} {o : Obj}, t.heap.get? b = some o → (b = a → False) → (L2.hidT t.heap G).get? b = some o := fun {b o} e ne => L2.hidT_get e (Decidable.byContradiction fun q => ne (S.at_ b q))
  have ns2 : ∀ {b : Addr} {m : Str → Option Value}, t.heap.Ns b m → (L2.hidT t.heap G).Ns b m := fun {b m} ⟨o, es, ep, e, d, r⟩ => ⟨o, es, ep, free e (fun q => by subst q; rw [obj] at e; cases e; exact (nomatch (show Data.seq us.toArray _ = Data.dict es ep from d))), d, r⟩
  have frag2 : K.In (L2.hidT t.heap G) := fun b o e => by
    rcases Decidable.em (G b = none) with n | n
    · exact L2.hidT_get (frag b o e) n
    · have q := S.at_ b n
      subst q
      rw [S.off n] at e
      cases e
  have mod : L2.Mod K mg (L2.hidT t.heap G) := ⟨frag2, ns2 gl, ⟨mb, ns2 bl, bb⟩, let ⟨mc, n1, n2⟩ := nolim; ⟨mc, ns2 n1, n2⟩⟩
  have start : L2.Env0 P w K mg (L2.hidT t.heap G) callerA [] t G := ⟨rfl, mod, fun _ _ e => L2.of_hidT e, Nat.le_of_eq (L2.hidT_size _ _), trivial, fun _ m => (nomatch m), S.ok, .of_eq gens⟩
  refine codeAny_mono ((F _ frag2 (ns2 gl)).go t G (.ref a) (.ref a) _ _ start (bind t (.ref a)) rfl (promise G S.few S.seq)) fun r t' out => ?_
  match r, out with
  | .error e, out => exact (cx_end out).elim
  | .ok .next, out => exact (show False from out).elim
  | .ok .brk, out => exact (show False from out).elim
  | .ok .cont, out => exact (show False from out).elim
  | .ok (.ret u), out =>
    obtain ⟨v, G', os, bare, un, ok', rel, q⟩ := out
    obtain rfl : v = .bl true := q
    obtain rfl : u = Value.bool true := rel
    refine ⟨rfl, OldK.of_keep fun b o e => ?_, os, bare⟩
    cases n : G b with
    | none => exact un.keep b o e n (fun z => (nomatch z)) (fun z => (nomatch z))
    | some y =>
      rcases S.few b with z | ⟨ob, xs, z⟩
      · rw [n] at z; cases z
      · obtain ⟨e1, _⟩ := S.ok b _ z
        obtain ⟨e2, _⟩ := ok' b _ (un.frzs b ob _ z)
        rw [e] at e1
        cases e1
        exact e2
theorem law_endTY {l : PySem.W.OpenLaw} {n : Nat} {q : PySem.Program} {loose : List Str} {XP : (Str → Option Value) → Heap → Prop} {YP : World → Heap → Prop} {d : DefRec} {K : Params → PySem.W.Frag} {F : List D → M D} (hn : l.most = some n) (hn2 : n ≤ sizeLine) (hdf : d.params.defaults = [])
    (hY : ∀ (w : World) (h : Heap), YP w h → (K w.params).In h) (plain : ∀ ns : List Int, ns.length ≤ n → ∃ w', F [.frz (ns.map D.int)] none = .ok (.bl true) w')
    (G : ∀ (w : World) (mg : Str → Option Value) (h : Heap), (K w.params).In h → h.Ns mainGlobals mg → ∃ (cm : Nat → Addr) (f : Addr) (fd : FuncData), mg d.name = some (.ref f) ∧ (∀ (s : Shared) (u : Value), BindsTo s fd ⟨[u], []⟩ [("script", u)]) ∧
      ∀ base : Heap, (K w.params).In base → base.Ns mainGlobals mg → TopOk l.prog w (K w.params) mg base f fd "script" (spXT (K w.params) cm 1 F)) :
    PySem.W.WalkO q loose XP YP l.row.toRowW d [] (fun f vs => PySem.call f vs) := by
  refine Att.attach_call hn hdf fun w s0 s1 mg mb fa o pm cd doc a vs ns T Y ho hd hcd hmg hobj hi hl hg => ?_
  obtain ⟨cm, f, fd, e, hb, hF⟩ := G w mg _ (hY w _ Y) T.T.g
  rw [hmg] at e
  cases e
  exact top_callY (hY w _ Y) T.T.g T.T.b T.T.builtins T.T.nolimit hg hobj hi (Nat.le_trans hl hn2) hF hb fun H few S => ⟨fun b us e => (few b).elim (fun z => (by rw [z] at e; cases e)) (fun ⟨o, xs, z⟩ => (by rw [z] at e; cases e)), sp_end plain H a ns hl S⟩
theorem law_finTY {P : Program} {w : World} {K : PySem.W.Frag} {mg : Str → Option Value} {cm : Nat → Addr} {st : Stmt} {F : List D → M D} (hd : ∃ f fd, DefAt K mg "law" st [] f fd)
    (hb : ∀ (kV doc pm : Value) (an : Option Addr) (cdv ct : Value) (us : List Value), us.length = (["script"] : List Str).length → bindArgs (PySem.W.fnOf "law" "law" (L2.defArgs st) (L2.defBody st) (L2.defScope st) .none kV doc pm an cdv ct) ⟨us, []⟩ = pure ((["script"] : List Str).zip us))
    (G : ∀ (base : Heap) (f : Addr) (fd : FuncData), DefAt K mg "law" st [] f fd → TopOk P w K mg base f fd "script" (spXT K cm 1 F)) : ∃ (cm : Nat → Addr) (f : Addr) (fd : FuncData), mg "law" = some (.ref f) ∧ (∀ (s : Shared) (u : Value), BindsTo s fd ⟨[u], []⟩ [("script", u)]) ∧
      ∀ base : Heap, K.In base → base.Ns mainGlobals mg → TopOk P w K mg base f fd "script" (spXT K cm 1 F) := by
  obtain ⟨f, fd, A⟩ := hd
  exact ⟨cm, f, fd, A.m, fun s u => A.F.bindsA hb s [u] rfl, fun base _ _ => G base f fd A⟩
end
end FL

/-! F35: list(e) as a new list; a list that is as others, in such defs. -/
namespace FL
open PySem
open L2 (It V Hp HO Cx Inv VK XK TE TT TA TS TI TG PE PT PA PS PSs PI PG Ends WX RelV Vals Rd upd upd_same upd_ne ne_of_none EP TP AP OpR R2 CallR FnOk Room Binds)
section
variable {X : Cx} {c : Cfg} {q : Sq} {sts : List Stmt} {t : SF}
/-- from here on the list of slot i is as others -/
theorem pssy_frz (i : Nat) (h : PSSY X c q sts t) : PSSY X c q sts (sSeq (sFrz i) t) := PSs.to h fun D σ H ⟨ρ, ph, w, h, hp⟩ => by
  unfold sSeq sFrz at hp
  cases e : ρ[i]? with
  | none => rw [e] at hp; exact (show False from hp).elim
  | some sl =>
    rw [e] at hp
    cases sl with
    | own xs =>
      obtain ⟨p, vs, e1, o, hv, r⟩ := h.env.ownd e
      have hi : i < ρ.length := (List.getElem?_eq_some_iff.mp e).1
      have hiσ : i < σ.length := by rw [h.env.len]; exact hi
      have es : σ.set i (some (.ref p)) = σ := by
        apply List.ext_getElem?
        intro j
        by_cases hj : i = j
        · subst hj; rw [List.getElem?_set_self hiσ, e1]
        · rw [List.getElem?_set_ne hj]
      have kk : Keep H (NN q ρ σ ph) H (NN q (ρ.set i (.val (.lst xs))) (σ.set i (some (.ref p))) ph) := keep_set fun _ z => by cases z
      -- p is not of the new state's own
      have np : ¬ NN q (ρ.set i (.val (.lst xs))) (σ.set i (some (.ref p))) ph p := fun z => by
        rcases z with (z | ⟨j, ys, h1, h2⟩) | z
        · obtain ⟨_, us, z, _⟩ := h.o0 p z
          rw [h.fresh i p xs e e1] at z; cases z
        · rcases get_set_or h1 with ⟨_, a⟩ | ⟨n, a⟩
          · cases a
          · rw [es] at h2
            exact n (h.inj i j p xs ys e a e1 h2)
        · exact (h.env.tr p o).1 z
      have h2 : StS X.K c.cm c.xa q (ρ.set i .none) ph w (σ.set i (some (.ref p))) H := h.setv (s := .none) (fun _ z => by cases z) trivial
      have lo : ∀ a, NN q (ρ.set i .none) (σ.set i (some (.ref p))) ph a → NN q (ρ.set i (.val (.lst xs))) (σ.set i (some (.ref p))) ph a := fun a z => by
        rcases z with (z | ⟨j, ys, h1, h2⟩) | z
        · exact .inl (.inl z)
        · rcases get_set_or h1 with ⟨_, a⟩ | ⟨n, a⟩
          · cases a
          · exact .inl (.inr ⟨j, ys, by rw [List.getElem?_set_ne n]; exact a, h2⟩)
        · exact .inr z
      have lo2 : ∀ a, NN q (ρ.set i (.val (.lst xs))) (σ.set i (some (.ref p))) ph a → NN q (ρ.set i .none) (σ.set i (some (.ref p))) ph a := fun a z => by
        rcases z with (z | ⟨j, ys, h1, h2⟩) | z
        · exact .inl (.inl z)
        · rcases get_set_or h1 with ⟨_, a⟩ | ⟨n, a⟩
          · cases a
          · exact .inl (.inr ⟨j, ys, by rw [List.getElem?_set_ne n]; exact a, h2⟩)
        · exact .inr z
      have h3 := h2.setd (i := i) (d := .lst xs) (v := .ref p) (by
        simp only [Rep]
        exact ⟨p, vs, rfl, ⟨fun z => np (lo p z), hv⟩, r.keep (kk.trans (Keep.less lo)) (fun _ e => e) xs vs⟩)
      rw [List.set_set, List.set_set, es] at h3
      rw [es] at kk
      exact ⟨_, ph, w, h3, hp⟩
    | _ => exact (show False from hp).elim
end
/-! a if t else b, as a test -/
def tIfE (t a b : TF) : TF := fun ρ => M.bind (t ρ) fun k => if k = true then a ρ else b ρ
theorem pt_ifT {X : Cx} {e a b : Expr} {pos : Pos} {tA ta tb : TT} (hc : PT X e tA) (ha : PT X a ta) (hb : PT X b tb) : PT X (.IfExp e a b pos) (fun σ H Q => tA σ H fun k H1 => if k = true then ta σ H1 Q else tb σ H1 Q) := by
  refine ⟨fun pins s σ H Q I h => ?_⟩
  show wpAny _ X.A (isTrue e X.env (eval e X.env) >>= fun k => if k = true then isTrue a X.env (eval a X.env) else isTrue b X.env (eval b X.env)) _ _ _
  refine wpAny_bind (L2.thn (hc.run pins s σ H _ I h) fun k s1 ⟨H1, I1, q1⟩ => ?_)
  cases k with
  | true => exact ha.run pins s1 σ H1 Q I1 q1
  | false => exact hb.run pins s1 σ H1 Q I1 q1
theorem ptx_ifT {X : Cx} {c : Cfg} {e a b : Expr} {pos : Pos} {t ta tb : TF} (ht : PTX X c e t) (ha : PTX X c a ta) (hb : PTX X c b tb) : PTX X c (.IfExp e a b pos) (tIfE t ta tb) :=
  PT.to (pt_ifT ht ha hb) fun σ H Q ⟨O, ρ, ph, w, h⟩ => ⟨O, ρ, ph, w, (cond_run h).imp fun k H1 ⟨ph1, w1, h1⟩ => by
    cases k with
    | true => exact ⟨O, ρ, ph1, w1, h1⟩
    | false => exact ⟨O, ρ, ph1, w1, h1⟩⟩
def itemsD : D → M (List D)
  | .lst xs | .tup xs => M.ret xs
  | _ => M.fail
def nList (e : EF) : NF := fun ρ => M.bind (e ρ) itemsD
def oneK {β : Type} (k : D → M β) : List D → M β
  | [d] => k d
  | _ => M.fail
theorem evs_one {β : Type} (fe : EF) (k : D → M β) (ρ : Env) : M.bind (fe ρ) k = M.bind (evs [fe] ρ) (oneK k) := by
  funext w
  have e : evs [fe] ρ = M.bind (fe ρ) fun x => M.bind (M.ret []) fun xs => M.ret (x :: xs) := rfl
  rw [e]
  unfold M.bind
  simp only
  cases fe ρ w <;> rfl
section
variable {X : Cx} {c : Cfg} {e : Expr} {fe : EF} {pos p : Pos}
theorem pnx_list (hg : L2.Gl X "list") (hm : X.mg "list" = none) (he : PX X c e fe) (hs : starEach [e] X.env = (false, eval e X.env) :: starEach [] X.env := by rfl) (hpl : (backTo pos (starEach [] X.env)).any (·.1) = false := by rfl) :
    PNX X c (.Call (.Name "list" p) [e] [] pos) (nList fe) :=
  PE.to (L2.pe_callTy L2.call_list_of hg hm bt_list (pax_cons he pax_nil hs) (by decide) (by decide) hs hpl) fun σ H Q ⟨O, ρ, ph, w, h⟩ => by
    have h : Run X.K c.cm c.xa O (relL X.K c.cm O) c.Wx ρ σ ph H w (M.bind (evs [fe] ρ) (oneK itemsD)) (fun vs H1 => ∀ p, H1 p = none → Q (.ref p) (upd H1 p (.lst vs))) := by
      rw [← evs_one]; exact h
    refine ⟨O, ρ, ph, w, (Run.bind (rel := relL X.K c.cm O) h).imp fun vs H1 ⟨ds, ph1, w1, e1, s1, r, h1⟩ => ?_⟩
    match ds, r, h1 with
    | [d], r, h1 =>
      obtain ⟨v, r', rfl, r1, r2⟩ := r.uncons
      cases r2.unnil
      cases d with
      | lst ds =>
        obtain ⟨a, vs, rfl, ⟨_, t⟩, rl⟩ := lst_of r1
        exact ⟨a, vs, rfl, .inl (.inl (.inl t)), h1.ret rl⟩
      | tup ds =>
        obtain ⟨a, vs, rfl, t, rl⟩ := tup_of r1
        exact ⟨a, vs, rfl, .inr t.seq, h1.ret rl⟩
      | _ => exact h1.no
    | [], _, h1 => exact h1.no
    | _ :: _ :: _, _, h1 => exact h1.no
end
end FL

/-! F36: properties of own classes, read; methods called. -/
namespace FL
open PySem
open L2 (It V Hp HO Cx Inv VK XK TE TT TA TS TI TG PE PT PA PS PSs PI PG Ends WX RelV Vals Rd upd upd_same upd_ne ne_of_none EP TP AP OpR R2 CallR FnOk Room Binds)
section
variable {P : Program} {w : World} {K : PySem.W.Frag} {mg : Str → Option Value} {base : Heap} {cm : Nat → Addr}
/-- the class at C has, under the name n, a property whose getter is the def of the statement st -/
structure PropAt (K : PySem.W.Frag) (C : Addr) (n qual : Str) (st : Stmt) (f : Addr) (fd : FuncData) : Prop where
  at_ : ∃ p, L2.PropOf K C n p f
  F : L2.FunD K n qual (L2.defArgs st) (L2.defBody st) (L2.defScope st) [] [] f fd
theorem prop_atB {K : PySem.W.Frag} {C p : Addr} {n qual : Str} {st : Stmt} {f : Addr} {oc kV doc pm cdv ct : Value} {od an : Option Addr} {osl : Array (Option Value)} {rest : List Value} (a : PySem.W.findIn K (.ref C) n = some (some (.ref p)))
    (g : PySem.W.specialIn K (.ref p) "__get__" = some (some (.builtin "property.__get__"))) (t : PySem.W.takesIn K (.ref p) = some true) (r : PySem.W.recIn K p "property" = some (.ref f :: rest))
    (l : K.lookup f = some ⟨oc, od, .func (PySem.W.fnOf n qual (L2.defArgs st) (L2.defBody st) (L2.defScope st) .none kV doc pm an cdv ct), osl⟩) (b : fnB K f cdv qual = true) : ∃ fd, PropAt K C n qual st f fd := by
  unfold fnB at b
  simp only [Bool.and_eq_true] at b
  exact ⟨_, ⟨p, a, g, t, _, r⟩, ⟨⟨oc, od, .none, kV, doc, pm, an, cdv, ct, osl, rfl, l, b.2.1, .inl ⟨rfl, rfl⟩, .inl rfl⟩, b.2.2⟩⟩
/-- the property n of the class number k0 -/
structure HasP (P : Program) (w : World) (K : PySem.W.Frag) (mg : Str → Option Value) (base : Heap) (cm : Nat → Addr) (n : Str) (k0 lvl : Nat) (F : List D → M D) : Prop where
  ex : ∃ f fd ps p, FnOk P w K mg base (L2N.CX P w) lvl f fd ps (spX K cm 1 F) ∧ L2.PropOf K (cm k0) n p f ∧ Binds K fd ps []
theorem hasP_of {nm qual : Str} {k0 k n : Nat} {st : Stmt} {N ps : List Str} {b : SF} (h : ∃ f fd, PropAt K (cm k0) nm qual st f fd) (S : L2.FnScope N ps (L2.defScope st)) (hps : ps.length = 1) (hN : N.length = n) (hmn : 1 ≤ n)
    (hb : ∀ (kV doc pm : Value) (an : Option Addr) (cdv ct : Value) (us : List Value), us.length = ps.length → bindArgs (PySem.W.fnOf nm qual (L2.defArgs st) (L2.defBody st) (L2.defScope st) .none kV doc pm an cdv ct) ⟨us, []⟩ = pure (ps.zip us))
    (body : ∀ (f : Addr) (cdv : Value) (A : Around) (outer : List PySem.Env) (s : Shared) (H : Hp) (E : XK) (q : Sq), Room k (A.deeper (PyProof.Rows.envOfC qual (L2.defScope st) s.heap.objs.size f cdv)) →
      PSSX (L2.cxOf (L2N.CX P w) P w K mg base N qual (L2.defScope st) f cdv A outer s H E) ⟨cm, none, fun cls d _ H' => E cls d H'⟩ q (L2.defBody st) b) :
    HasP P w K mg base cm nm k0 (k + 1) (callF n b) := by
  obtain ⟨f, fd, ⟨p, a⟩, F⟩ := h
  subst hN
  have ok := fn_ok F S (show ps.length ≤ N.length by omega) fun cdv A outer s H E q hr => body f cdv A outer s H E q hr
  rw [hps] at ok
  exact ⟨f, fd, ps, p, ok, a, F.bindsN hb⟩
theorem HasP.up {n : Str} {k0 l l' : Nat} {F : List D → M D} (G : HasP P w K mg base cm n k0 l F) (h : l ≤ l') : HasP P w K mg base cm n k0 l' F := by
  obtain ⟨f, fd, ps, p, g1, g2⟩ := G.ex
  exact ⟨f, fd, ps, p, g1.mono h, g2⟩
end
/-- the property by the class of the object -/
abbrev PTab := List (Nat × (List D → M D))
def findP (k : Nat) : PTab → Option (List D → M D)
  | [] => none
  | (i, F) :: T => if k = i then some F else findP k T
def propD (T : PTab) : D → M D
  | .ins k ns xs => match findP k T with
    | some F => noEx (F [.ins k ns xs])
    | none => M.fail
  | _ => M.fail
theorem findP_all {Q : Nat → (List D → M D) → Prop} {k : Nat} {F : List D → M D} : ∀ {T : PTab}, (∀ p ∈ T, Q p.1 p.2) → findP k T = some F → Q k F
  | [], _, h => nomatch h
  | (i, G) :: T, a, h => by
    unfold findP at h
    by_cases e : k = i
    · rw [if_pos e] at h; cases h; subst e; exact a (k, _) (List.mem_cons_self ..)
    · rw [if_neg e] at h; exact findP_all (fun p hp => a p (List.mem_cons_of_mem _ hp)) h
theorem pl_n {Q : Nat × (List D → M D) → Prop} : ∀ p ∈ ([] : PTab), Q p := fun _ h => nomatch h
theorem pl_c {Q : Nat × (List D → M D) → Prop} {a : Nat × (List D → M D)} {l : PTab} (h : Q a) (t : ∀ p ∈ l, Q p) : ∀ p ∈ a :: l, Q p := fun p hp => by
  rcases List.mem_cons.mp hp with rfl | hp
  · exact h
  · exact t p hp
section
variable {X : Cx} {c : Cfg} {pos : Pos} {e : Expr} {fe : EF}
open PySem.Spec PyProof.Rows L2 in
theorem px_prop {f : Str} {lv : Nat} (T : PTab) (hT : ∀ p ∈ T, HasP X.prog X.w X.K X.mg X.base c.cm f p.1 lv p.2 ∧ L2.Cls X.K (c.cm p.1)) (room : Room (lv + 1) X.A) (he : PX X c e fe) (hb : attributeBase e f X.env (eval e X.env) = eval e X.env := by rfl) : PX X c (.Attribute e f pos) (eUn (propD T) fe) := by
  refine ⟨fun pins s σ H Q I ⟨O, ρ, ph, w, h⟩ => ?_⟩
  refine attr_of hb (thn (he.run pins s σ H _ I ⟨O, ρ, ph, w, h.bind⟩) fun u s1 ⟨x, H1, I1, rx, d, ph1, w1, e1, s1', r1, h2⟩ => ?_)
  cases d with
  | ins k ns xs =>
    unfold propD at h2
    simp only at h2
    cases hl : findP k T with
    | none => rw [hl] at h2; exact h2.no
    | some F =>
      rw [hl] at h2
      simp only at h2
      obtain ⟨G, cl⟩ := findP_all (Q := fun k F => HasP X.prog X.w X.K X.mg X.base c.cm f k lv F ∧ L2.Cls X.K (c.cm k)) hT hl
      obtain ⟨g, fd, ps, p, F1, hp, hbi⟩ := G.ex
      have r0 := r1
      simp only [Rep] at r0
      obtain ⟨a, dx, vs, rfl, _, t, _, rl⟩ := r0
      obtain rfl : u = Value.ref a := rx
      refine getprop_ok (E := fun _ _ _ => False) I1 t cl hp F1 room hbi .nil (fun _ _ _ _ _ _ _ q => cx_none q) ?_
      refine ⟨rfl, O, [.ins k ns xs], ph1, w1, h2.env.tr, h2.hand, RepL.one r1, ?_⟩
      have post := h2.post
      cases ev : F [.ins k ns xs] w1 with
      | ok z w2 =>
        rw [noEx_ap ev] at post
        intro v H' ph' x1 s1 hk rz
        exact post v H' ph' x1 s1 hk rz
      | ex => rw [noEx_bad (by rw [ev]; intro _ _ z; cases z)] at post; exact (show False from post).elim
      | bad => rw [noEx_bad (by rw [ev]; intro _ _ z; cases z)] at post; exact (show False from post).elim
  | _ => exact h2.no
end
end FL

/-! F37: try with any clauses, named or not. -/
namespace FL
/-- one clause: its class, its name's slot, what its suite does -/
structure Hd where
  cl : PySem.Value
  at_ : Option Nat
  ts : PySem.Addr → PySem.Value → Option PySem.Addr → L2.TS
def hdEnds (D : L2.Ends) : Option Nat → L2.Ends
  | none => D
  | some i => { nx := fun z g => D.nx (z.set i none) g, rt := D.rt, bk := fun z g => D.bk (z.set i none) g, ct := fun z g => D.ct (z.set i none) g }
def hdSt (a : PySem.Addr) (z : L2.St) : Option Nat → L2.St
  | none => z
  | some i => z.set i (some (.ref a))
/-- what the clauses ask of an error, in their order -/
def wHds (K : PySem.W.Frag) (Wout : L2.WX) (D : L2.Ends) : List Hd → L2.WX
  | [] => Wout
  | c :: cs => fun k d z g => ∃ b, PySem.W.exmOne K k c.cl = some b ∧ (b = true → ∀ a, g a = none → c.ts a k d (hdEnds D c.at_) (hdSt a z c.at_) g) ∧ (b = false → wHds K Wout D cs k d z g)
section
open PySem PySem.Spec PyProof.Rows L2
inductive HdsA (X : Cx) : List ExceptHandler → List Hd → Prop
  | stop : HdsA X [] []
  | anon {y : Str} {v : Value} {f : Addr → Value → Option Addr → TS} {t0 : Stmt} {ts : List Stmt} {p1 p2 : Pos} {more : List ExceptHandler} {l : List Hd} (nm : Names X y v)
      (go : ∀ (a : Addr) (ob : Obj) (k : Value) (d : Option Addr) (ps : List (Addr × Obj)), L2N.Zn k d ob → (∃ vs, ob.data = .fields vs) → PSs (X.suite a ((a, ob) :: ps)) (t0 :: ts) (f a k d)) (rest : HdsA X more l) :
      HdsA X (.ExceptHandler (some (.Name y p1)) none (t0 :: ts) p2 :: more) (⟨v, none, f⟩ :: l)
  | named {y n : Str} {i : Nat} {v : Value} {f : Addr → Value → Option Addr → TS} {t0 : Stmt} {ts : List Stmt} {p1 p2 : Pos} {more : List ExceptHandler} {l : List Hd} (hN : X.N.Nodup) (hi : X.N[i]? = some n) (hl : X.env.kindOf n = some .local) (nm : Names X y v)
      (go : ∀ (a : Addr) (ob : Obj) (k : Value) (d : Option Addr) (ps : List (Addr × Obj)), L2N.Zn k d ob → (∃ vs, ob.data = .fields vs) → PSs (X.suite a ((a, ob) :: ps)) (t0 :: ts) (f a k d)) (rest : HdsA X more l) :
      HdsA X (.ExceptHandler (some (.Name y p1)) (some n) (t0 :: ts) p2 :: more) (⟨v, some i, f⟩ :: l)
variable {X : Cx} {body : List Stmt} {e0 : ExceptHandler} {es : List ExceptHandler} {l : List Hd} {pos : Pos} {tb : WX → TS} {Wout : WX}
theorem ps_tryA (stk : X.stack = X.env :: X.outer) (frm : X.env.frame = some X.env.locals) (tk : L2N.Takes X Wout)
    (run : ∀ (W : WX) (ps : List (Addr × Obj)) (xe : Value → Shared → Prop), L2N.Takes (X.tr ps xe) W → PassesOwn (model X.prog X.w) X.A X.env xe → PSs (X.tr ps xe) body (tb W))
    (hh : HdsA X (e0 :: es) l) : PS X (.Try body (e0 :: es) [] [] pos) (fun D z g => tb (wHds X.K Wout D l) D z g) := by
  refine ⟨fun pins s z g D I h => ?_⟩
  have ok := I.ok
  have frs_ : X.A.frames = some (X.env :: X.outer) := by rw [ok.frames, stk]
  refine wpAny_Try_except ?_
  refine wpAny_mono ((run (wHds X.K Wout D l) (X.pn ++ pins) (fun e1 s1 => wpAny (model X.prog X.w) X.A (noteFrame e1 X.env) (fun _ s2 => wpAny (model X.prog X.w) X.A (setFlight e1 none) (fun _ s3 =>
    wpAny (model X.prog X.w) X.A (handleBy e1 X.env (e0 :: es)) (SP X pins D) X.xe s3) X.xe s2) X.xe s1) (fun u s' xx => ?_) PassesOwn.looking).run [] s z g D (I.toTry _) h) (fun f s1 got => ?_) (fun e1 s1 he => he)
  · obtain ⟨a, B, sI, pins', z', g', k, d, rfl, J', nb, up, sky, na, os, ag, w⟩ := xx
    have J : Inv X pins z' g' sI := J'.ofTry ok
    have sky1 : Sky B (X.env :: X.outer) a (L2N.Zn k d) X.env.locals s'.heap := by rw [← stk]; exact sky
    show wpAny (model X.prog X.w) X.A (noteFrame (.ref a) X.env) _ _ _
    refine L2N.Sky.land L2N.Zn.steady frs_ frm sky1 fun h3 fl3 up3 => ?_
    have J3 : Inv X pins z' g' { s' with heap := h3 } := J.landed nb fl3.1 (up.trans up3) os ag
    obtain ⟨o3, v3, get3, zc3, dat3⟩ := fl3.there
    have apart : ∀ {h : Heap} {o : Obj} {vs : Array Value}, h.FunFrames B (X.env :: X.outer) → h.get? a = some o → o.data = .fields vs → a ∉ frs (X.env :: X.outer) := fun {h o vs} ff e dd hm => by
      obtain ⟨_, o', e', no⟩ := ff.mem hm
      rw [e] at e'; cases e'
      exact no _ dd
    have nfr := apart fl3.2.2.1 get3 dat3
    have nL : a ≠ X.env.locals := fun q => nfr (List.mem_filterMap.mpr ⟨X.env, List.mem_cons_self, by rw [frm, q]⟩)
    have nF : a ∉ X.fs := fun hm => by
      obtain ⟨e, he, q⟩ := List.mem_filterMap.mp hm
      exact nfr (List.mem_filterMap.mpr ⟨e, List.mem_cons_of_mem _ he, q⟩)
    have S3 := J3.suite get3 dat3 na nL nF
    have clauses : ∀ {es' : List ExceptHandler} {l' : List Hd}, HdsA X es' l' → wHds X.K Wout D l' k d z' g' →
        wpAny (model X.prog X.w) X.A (handleBy (.ref a) X.env es') (SP X pins D) X.xe { s' with heap := h3 } := by
      intro es' l' hk
      induction hk with
      | stop =>
        intro w
        refine wpAny_handleBy_nil ?_
        obtain ⟨k1, k2, k3, oe, vs, T, oT, ts', he, hz, hd, h1, hr⟩ := id fl3
        unfold PySem.passOn
        refine wpAny_bind (wpAny_field he hd h1 ?_)
        rw [if_neg (show ¬ ((Value.ref T == Value.none) = true) from by simp)]
        have out : wpAny (model X.prog X.w) X.A (setFlight (.ref a) X.env.frame) (fun _ s4 => wpAny (model X.prog X.w) X.A (throw (.ref a) : Sem Flow) (SP X pins D) X.xe s4) X.xe { s' with heap := h3 } := by
          rw [frm]
          refine HandSPX.setFlight_upZ fl3 fun h4 hh4 up4 => wpAny_throw (tk _ _ ?_)
          exact ⟨a, B, sI, pins, z', g', k, d, rfl, J, nb, (up.trans up3).trans up4, .inr (.inr (by rw [stk]; exact hh4)), na, os, ag, w⟩
        first
          | exact wpAny_bind (wpAny_pure (wpAny_bind out))
          | exact wpAny_bind out
      | @anon y v f t0 ts p1 p2 more l2 nm go rest ih =>
        intro w
        obtain ⟨b, hb1, hyes, hno⟩ := w
        refine wpAny_handleBy_cons (codeAny_handlers_test ?_) (by intro q; cases q)
        have LT : PySem.W.Looks (model X.prog X.w) h3 (typeOf (.ref a)) k := fun A Q E s m q => wpAny_typeOf_ref (m _ _ get3) (by rw [zc3.1]; exact q)
        have LM := PySem.W.exm_one (M := model X.prog X.w) (J3.kIn) LT hb1
        have read : ∀ {Q : Value → Shared → Prop} {E : Value → Shared → Prop}, Q v { s' with heap := h3 } → wpAny (model X.prog X.w) (X.A.mark (some (.ref a))) (eval (.Name y p1) X.env) Q E { s' with heap := h3 } := fun {Q E} q => by
          obtain ⟨gl, dbg, hm | ⟨hm, hv, hnn⟩⟩ := nm
          · exact ld_glob (X := X.suite a ((a, o3) :: (X.pn ++ pins))) S3 gl hm q dbg
          · exact ld_blt (X := X.suite a ((a, o3) :: (X.pn ++ pins))) S3 gl hm hv q hnn dbg
        refine read (LM.here ?_)
        cases b with
        | true =>
          refine codeAny_handlers_suite ?_
          refine HandSPX.lands_againZ fl3 fun h4 fl4 up4 => ?_
          have J4 : Inv X pins z' g' { s' with heap := h4 } := J.landed nb fl4.1 ((up.trans up3).trans up4) os ag
          obtain ⟨o4, v4, get4, zc4, dat4⟩ := fl4.there
          have S4 := J4.suite get4 dat4 na nL nF
          refine wpAny_mono ((go a o4 k d (X.pn ++ pins) zc4 ⟨_, dat4⟩).run [] _ _ g' _ S4 (hyes rfl a na)) (fun f s6 got => ?_) (fun _ _ q => False.elim q)
          cases f with
          | next =>
            obtain ⟨z6, g6, S6, q6⟩ := got
            exact ⟨_, _, S6.unsuite ok, q6⟩
          | brk =>
            obtain ⟨z6, g6, S6, q6⟩ := got
            exact ⟨_, _, S6.unsuite ok, q6⟩
          | cont =>
            obtain ⟨z6, g6, S6, q6⟩ := got
            exact ⟨_, _, S6.unsuite ok, q6⟩
          | ret u =>
            obtain ⟨v6, z6, g6, S6, r6, q6⟩ := got
            exact ⟨_, _, _, S6.unsuite ok, r6, q6⟩
        | false =>
          show wpAny _ X.A (handleBy (.ref a) X.env more) _ _ _
          exact ih (hno rfl)
      | @named y n i v f t0 ts p1 p2 more l2 hN hi hl nm go rest ih =>
        intro w
        obtain ⟨b, hb1, hyes, hno⟩ := w
        refine wpAny_handleBy_cons (codeAny_handlers_test ?_) (by intro q; cases q)
        have LT : PySem.W.Looks (model X.prog X.w) h3 (typeOf (.ref a)) k := fun A Q E s m q => wpAny_typeOf_ref (m _ _ get3) (by rw [zc3.1]; exact q)
        have LM := PySem.W.exm_one (M := model X.prog X.w) (J3.kIn) LT hb1
        have read : ∀ {Q : Value → Shared → Prop} {E : Value → Shared → Prop}, Q v { s' with heap := h3 } → wpAny (model X.prog X.w) (X.A.mark (some (.ref a))) (eval (.Name y p1) X.env) Q E { s' with heap := h3 } := fun {Q E} q => by
          obtain ⟨gl, dbg, hm | ⟨hm, hv, hnn⟩⟩ := nm
          · exact ld_glob (X := X.suite a ((a, o3) :: (X.pn ++ pins))) S3 gl hm q dbg
          · exact ld_blt (X := X.suite a ((a, o3) :: (X.pn ++ pins))) S3 gl hm hv q hnn dbg
        refine read (LM.here ?_)
        cases b with
        | true =>
          refine codeAny_handlers_suite_as ?_
          refine HandSPX.lands_againZ fl3 fun h4 fl4 up4 => ?_
          have J4 : Inv X pins z' g' { s' with heap := h4 } := J.landed nb fl4.1 ((up.trans up3).trans up4) os ag
          obtain ⟨o4, v4, get4, zc4, dat4⟩ := fl4.there
          have S4 := J4.suite get4 dat4 na nL nF
          refine store_ok (X := X.suite a ((a, o4) :: (X.pn ++ pins))) (v := .ref a) S4 hN hi (.inl hl) rfl (fun s5 S5 => ?_) (.inr hl)
          refine wpAny_mono ((go a o4 k d (X.pn ++ pins) zc4 ⟨_, dat4⟩).run [] s5 _ g' _ S5 (hyes rfl a na)) (fun f s6 got => ?_) (fun _ _ q => False.elim q)
          have over_ : ∀ {z6 : St} {g6 : Hp} {Q : Shared → Prop}, Inv (X.suite a ((a, o4) :: (X.pn ++ pins))) [] z6 g6 s6 → (∀ s7, Inv X pins (z6.set i none) g6 s7 → Q s7) →
              wpAny (model X.prog X.w) X.A (do bindName X.env n .none; unbindBehindTheSuite X.env n p2) (fun _ s7 => Q s7) X.xe s6 := fun {z6 g6 Q} S6 hq => gone_ok (S6.unsuite ok) hN hi hl hq
          cases f with
          | next =>
            obtain ⟨z6, g6, S6, q6⟩ := got
            exact over_ S6 fun s7 J7 => ⟨_, _, J7, q6⟩
          | brk =>
            obtain ⟨z6, g6, S6, q6⟩ := got
            exact over_ S6 fun s7 J7 => ⟨_, _, J7, q6⟩
          | cont =>
            obtain ⟨z6, g6, S6, q6⟩ := got
            exact over_ S6 fun s7 J7 => ⟨_, _, J7, q6⟩
          | ret u =>
            obtain ⟨v6, z6, g6, S6, r6, q6⟩ := got
            exact over_ S6 fun s7 J7 => ⟨_, _, _, J7, r6, q6⟩
        | false =>
          show wpAny _ X.A (handleBy (.ref a) X.env more) _ _ _
          exact ih (hno rfl)
    exact clauses hh w
  · cases f with
    | next =>
      obtain ⟨z', g', J', q⟩ := got
      exact wpAny_execs_nil ⟨z', g', J'.ofTry ok, q⟩
    | brk =>
      obtain ⟨z', g', J', q⟩ := got
      exact ⟨z', g', J'.ofTry ok, q⟩
    | cont =>
      obtain ⟨z', g', J', q⟩ := got
      exact ⟨z', g', J'.ofTry ok, q⟩
    | ret u =>
      obtain ⟨v, z', g', J', r, q⟩ := got
      exact ⟨v, z', g', J'.ofTry ok, r, q⟩
end
end FL

/-! F38: try with any clauses, its mirror. -/
namespace FL
open PySem
open L2 (V Hp HO Cx Inv VK XK TE TT TA TS TI TG PE PT PA PS PSs PI PG Ends WX RelV Vals Rd upd upd_same upd_ne ne_of_none EP TP AP OpR R2 CallR FnOk Room Binds)
/-- behind a suite without a name -/
def suiteN (r : SR) : SR := match r with
  | .ex _ _ _ _ _ => .bad
  | r => r
structure HdF where
  cs : List Nat
  ks : List Nat
  at_ : Option Nat
  su : SF
def pickH : List HdF → Nat → List Str → List D → Env → Wd → SR
  | [], c, ns, xs, ρ, w => .ex c ns xs ρ w
  | h :: r, c, ns, xs, ρ, w => if c ∈ h.cs then (match h.at_ with | some i => suiteK i (h.su (ρ.set i (.exc c ns xs)) w) | none => suiteN (h.su ρ w)) else if c ∈ h.ks then pickH r c ns xs ρ w else .bad
def sTryM (b : SF) (hs : List HdF) : SF := fun ρ w => match b ρ w with
  | .ex c ns xs ρ' w' => pickH hs c ns xs ρ' w'
  | r => r
section
variable {X : Cx} {c : Cfg} {q : Sq} {pos : Pos}
inductive HdsX (X : Cx) (c : Cfg) (q : Sq) : List ExceptHandler → List HdF → Prop
  | stop : HdsX X c q [] []
  | anon {x : Str} {C : Value} {b0 : Stmt} {suite : List Stmt} {np pos' : Pos} {more : List ExceptHandler} {l : List HdF} {su : SF} (cs ks : List Nat) (hc : L2.Names X x C)
      (yes : ∀ k, k ∈ cs → PySem.W.exmOne X.K (.ref (c.cm k)) C = some true) (no : ∀ k, k ∈ ks → PySem.W.exmOne X.K (.ref (c.cm k)) C = some false)
      (hsu : ∀ (a : Addr) (oe : Obj) (k : Nat) (dd : Addr) (pn : List (Addr × Obj)), k ∈ cs → L2N.Zn (.ref (c.cm k)) (some dd) oe → (∃ vs, oe.data = .fields vs) → PSSX (X.suite a ((a, oe) :: pn)) ⟨c.cm, none, noW⟩ q (b0 :: suite) su)
      (r : HdsX X c q more l) : HdsX X c q (.ExceptHandler (some (.Name x np)) none (b0 :: suite) pos' :: more) (⟨cs, ks, none, su⟩ :: l)
  | named {x n : Str} {i : Nat} {C : Value} {b0 : Stmt} {suite : List Stmt} {np pos' : Pos} {more : List ExceptHandler} {l : List HdF} {su : SF} (cs ks : List Nat) (hN : X.N.Nodup) (hi : X.N[i]? = some n) (hln : X.env.kindOf n = some .local) (hc : L2.Names X x C)
      (yes : ∀ k, k ∈ cs → PySem.W.exmOne X.K (.ref (c.cm k)) C = some true) (no : ∀ k, k ∈ ks → PySem.W.exmOne X.K (.ref (c.cm k)) C = some false)
      (hsu : ∀ (a : Addr) (oe : Obj) (k : Nat) (dd : Addr) (pn : List (Addr × Obj)), k ∈ cs → L2N.Zn (.ref (c.cm k)) (some dd) oe → (∃ vs, oe.data = .fields vs) → PSSX (X.suite a ((a, oe) :: pn)) ⟨c.cm, some (a, k, dd), noW⟩ q (b0 :: suite) su)
      (r : HdsX X c q more l) : HdsX X c q (.ExceptHandler (some (.Name x np)) (some n) (b0 :: suite) pos' :: more) (⟨cs, ks, some i, su⟩ :: l)
/-- a suite without a name, read -/
def tSn (K : PySem.W.Frag) (cm : Nat → Addr) (q : Sq) (cs : List Nat) (s : SF) (cls : Value) (d : Option Addr) : TS := fun D σ H => ∃ k dd, k ∈ cs ∧ cls = .ref (cm k) ∧ d = some dd ∧ tS K cm none q noW s D σ H
theorem hds_conv {hs : List ExceptHandler} {l : List HdF} (h : HdsX X c q hs l) : ∃ l', HdsA X hs l' ∧ ∀ {D : Ends} {H H' : Hp} {N : NS} {ph ph' : Option Addr} {c0 : Nat} {ns : List Str} {xs : List FL.D} {ρ' : Env} {w' : Wd} {σ' : St} {dd : Addr} {vs : List V},
    Post2 X.K c.cm none q c.Wx D H N ph (pickH l c0 ns xs ρ' w') → StS X.K c.cm none q ρ' ph' w' σ' H' → Kp H N ph H' (NN q ρ' σ' ph') ph' → H' dd = some (.xd (ns.zip vs).reverse) → ns.length = vs.length → RepL X.K c.cm H' (NN q ρ' σ' ph') ph' xs vs → wHds X.K c.Wx D l' (.ref (c.cm c0)) (some dd) σ' H' := by
  induction h with
  | stop => exact ⟨[], .stop, fun hp h1 k1 hd l r => hp _ _ _ _ _ h1 k1 hd l r⟩
  | @anon x C b0 suite np pos' more l su cs ks hc yes no hsu r ih =>
    obtain ⟨l', ha, hb⟩ := ih
    refine ⟨⟨C, none, fun a cls d => tSn X.K c.cm q cs su cls d⟩ :: l', .anon hc (fun a oe cls d pn hz hv => ⟨fun pins s σ H D I hh => ?_⟩) ha, ?_⟩
    · obtain ⟨k, dd, hk, rfl, rfl, hh⟩ := hh
      exact (hsu a oe k dd pn hk hz hv).run pins s σ H D I hh
    · intro D H H' N ph ph' c0 ns xs ρ' w' σ' dd vs hp h1 k1 hd l r
      unfold pickH at hp
      simp only at hp
      by_cases hm : c0 ∈ cs
      · rw [if_pos hm] at hp
        refine ⟨true, yes c0 hm, fun _ a ha => ⟨c0, dd, hm, rfl, rfl, ρ', ph', w', h1, ?_⟩, fun z => Bool.noConfusion z⟩
        unfold suiteN at hp
        show Post2 X.K c.cm none q noW D H' _ ph' _
        cases e2 : su ρ' w' with
        | nx ρ2 w2 => rw [e2] at hp; exact fun σ2 H2 ph2 s2 k2 => hp _ H2 ph2 s2 (k1.trans k2)
        | bk ρ2 w2 => rw [e2] at hp; exact fun σ2 H2 ph2 s2 k2 => hp _ H2 ph2 s2 (k1.trans k2)
        | ct ρ2 w2 => rw [e2] at hp; exact fun σ2 H2 ph2 s2 k2 => hp _ H2 ph2 s2 (k1.trans k2)
        | rt d w2 => rw [e2] at hp; exact hp
        | ex c2 ns2 xs2 ρ2 w2 => rw [e2] at hp; exact (show False from hp).elim
        | bad => rw [e2] at hp; exact (show False from hp).elim
      · rw [if_neg hm] at hp
        by_cases hm2 : c0 ∈ ks
        · rw [if_pos hm2] at hp
          exact ⟨false, no c0 hm2, fun z => Bool.noConfusion z, fun _ => hb hp h1 k1 hd l r⟩
        · rw [if_neg hm2] at hp
          exact (show False from hp).elim
  | @named x n i C b0 suite np pos' more l su cs ks hN hi hln hc yes no hsu r ih =>
    obtain ⟨l', ha, hb⟩ := ih
    refine ⟨⟨C, some i, fun a cls d => tSu X.K c.cm q cs su a cls d⟩ :: l', .named hN hi hln hc (fun a oe cls d pn hz hv => ⟨fun pins s σ H D I hh => ?_⟩) ha, ?_⟩
    · obtain ⟨k, dd, hk, rfl, rfl, hh⟩ := hh
      exact (hsu a oe k dd pn hk hz hv).run pins s σ H D I hh
    · intro D H H' N ph ph' c0 ns xs ρ' w' σ' dd vs hp h1 k1 hd l r
      unfold pickH at hp
      simp only at hp
      by_cases hm : c0 ∈ cs
      · rw [if_pos hm] at hp
        refine ⟨true, yes c0 hm, fun _ a ha => ⟨c0, dd, hm, rfl, rfl, ρ'.set i (.exc c0 ns xs), ph', w', h1.exc hd l r, ?_⟩, fun z => Bool.noConfusion z⟩
        have kx : Kp H N ph H' (NN q (ρ'.set i (.exc c0 ns xs)) (σ'.set i (some (.ref a))) ph') ph' := k1.trans (keep_set fun _ z => by cases z).kp
        have back : ∀ (ρ2 : Env) (σ2 : St) (H2 : Hp) (ph2 : Option Addr) (w2 : Wd), StS X.K c.cm (some (a, c0, dd)) q ρ2 ph2 w2 σ2 H2 → Kp H' (NN q (ρ'.set i (.exc c0 ns xs)) (σ'.set i (some (.ref a))) ph') ph' H2 (NN q ρ2 σ2 ph2) ph2 →
            StS X.K c.cm none q (wipeX (ρ2.set i .none)) ph2 w2 (σ2.set i none) H2 ∧ Kp H N ph H2 (NN q (wipeX (ρ2.set i .none)) (σ2.set i none) ph2) ph2 := fun ρ2 σ2 H2 ph2 w2 s2 k2 =>
          ⟨(StS.setv (s := .none) (x := none) (fun _ z => by cases z) trivial s2).wipe, kx.trans (k2.trans ((keep_set (s := .none) fun _ z => by cases z).kp.trans keep_wipe.kp))⟩
        unfold suiteK at hp
        show Post2 X.K c.cm _ q noW _ H' _ ph' _
        cases e2 : su (ρ'.set i (.exc c0 ns xs)) w' with
        | nx ρ2 w2 =>
          rw [e2] at hp
          intro σ2 H2 ph2 s2 k2
          obtain ⟨s3, k3⟩ := back ρ2 σ2 H2 ph2 w2 s2 k2
          exact hp _ H2 ph2 s3 k3
        | bk ρ2 w2 =>
          rw [e2] at hp
          intro σ2 H2 ph2 s2 k2
          obtain ⟨s3, k3⟩ := back ρ2 σ2 H2 ph2 w2 s2 k2
          exact hp _ H2 ph2 s3 k3
        | ct ρ2 w2 =>
          rw [e2] at hp
          intro σ2 H2 ph2 s2 k2
          obtain ⟨s3, k3⟩ := back ρ2 σ2 H2 ph2 w2 s2 k2
          exact hp _ H2 ph2 s3 k3
        | rt d w2 => rw [e2] at hp; exact hp
        | ex c2 ns2 xs2 ρ2 w2 => rw [e2] at hp; exact (show False from hp).elim
        | bad => rw [e2] at hp; exact (show False from hp).elim
      · rw [if_neg hm] at hp
        by_cases hm2 : c0 ∈ ks
        · rw [if_pos hm2] at hp
          exact ⟨false, no c0 hm2, fun z => Bool.noConfusion z, fun _ => hb hp h1 k1 hd l r⟩
        · rw [if_neg hm2] at hp
          exact (show False from hp).elim
theorem psx_tryM {body : List Stmt} {e0 : ExceptHandler} {es : List ExceptHandler} {sb : SF} {l : List HdF} (hxa : c.xa = none) (hs : X.stack = X.env :: X.outer) (hf : X.env.frame = some X.env.locals) (tk : L2N.Takes X c.Wx)
    (hb : ∀ (W : WX) (pn : List (Addr × Obj)) (xe : Value → Shared → Prop), L2N.Takes (X.tr pn xe) W → PassesOwn (model X.prog X.w) X.A X.env xe → PSSX (X.tr pn xe) ⟨c.cm, none, W⟩ q body sb)
    (hh : HdsX X c q (e0 :: es) l) : PSX X c q (.Try body (e0 :: es) [] [] pos) (sTryM sb l) := by
  obtain ⟨l', ha, hc⟩ := hds_conv hh
  refine PS.to (ps_tryA (tb := fun W => tS X.K c.cm none q W sb) (Wout := c.Wx) hs hf tk hb ha) fun D σ H ⟨ρ, ph, w, h, hp⟩ => ?_
  rw [hxa] at h hp
  refine ⟨ρ, ph, w, h, ?_⟩
  unfold sTryM at hp
  cases er : sb ρ w with
  | nx ρ' w' => rw [er] at hp; exact hp
  | rt d w' => rw [er] at hp; exact hp
  | bk ρ' w' => rw [er] at hp; exact hp
  | ct ρ' w' => rw [er] at hp; exact hp
  | bad => rw [er] at hp; exact hp
  | ex c0 ns xs ρ' w' =>
    rw [er] at hp
    intro σ' H' ph' dd vs h1 k1 hd l r
    exact hc hp h1 k1 hd l r
end
end FL

/-! F39: a slice of a list as a new list. -/
namespace FL
open PySem
open L2 (V Hp HO Cx Inv VK XK TE TT TA TS TI TG PE PT PA PS PSs PI PG Ends WX RelV Vals Rd upd upd_same upd_ne ne_of_none EP TP AP OpR R2 CallR FnOk Room Binds)
def sliceL (x : D) (lo hi : Option Int) : M (List D) := match x with
  | .lst xs => M.ret (cutL xs lo hi)
  | _ => M.fail
def nSlice (a : EF) (lo hi : Option EF) : NF := fun ρ => M.bind (a ρ) fun x => M.bind (partF lo ρ) fun l => M.bind (partF hi ρ) fun h => sliceL x l h
section
variable {X : Cx} {c : Cfg}
theorem pnx_slice {e : Expr} {fe : EF} {lo hi : Option Expr} {fl fh : Option EF} {p2 pos : Pos} (he : PX X c e fe) (hl : POX X c lo fl) (hu : POX X c hi fh) : PNX X c (.Subscript e (.Slice lo hi none p2) pos) (nSlice fe fl fh) :=
  PE.to (L2.pe_slice sl_all he hl hu) fun σ H Q ⟨O, ρ, ph, w, h⟩ => ⟨O, ρ, ph, w, h.bind.imp fun v H1 ⟨d, ph1, w1, e1, s1, r1, h1⟩ =>
    ⟨O, ρ, ph1, w1, (Run.bind (rel := relO) h1).imp fun l H2 ⟨l', ph2, w2, e2, s2, r2, h2⟩ => ⟨O, ρ, ph2, w2, (Run.bind (rel := relO) h2).imp fun u H3 ⟨u', ph3, w3, e3, s3, r3, h3⟩ => by
      cases r2; cases r3
      have r := Rep.keep (Ext.keep e3 s3) s3.m d v (Rep.keep (Ext.keep e2 s2) s2.m d v r1)
      cases d with
      | lst ds =>
        obtain ⟨a, vs, rfl, ⟨_, t⟩, rl⟩ := lst_of r
        exact .inl ⟨a, vs, rfl, .inl (.inl t), fun p hp => by rw [cutL_eq]; exact h3.ret (rl.cut l u) p hp⟩
      | _ => exact h3.no⟩⟩⟩
end
def nOwnAll (i : Nat) : NF := fun ρ => match ρ[i]? with
  | some (.own xs) => M.ret (cutL xs none none)
  | _ => M.fail
section
variable {X : Cx} {c : Cfg}
/-- x[:] of a list of the def's own -/
theorem pnx_ownAll (i : Nat) {x : Str} {p0 p2 pos : Pos} (hN : X.N[i]? = some x := by rfl) (hv : L2.Vis X.env.scope x := by first | exact Or.inl rfl | exact Or.inr (Or.inl rfl) | exact Or.inr (Or.inr rfl)) (hd : (x == ("__debug__" : Str)) = false := by decide)
    (hcd : (x == ("__classdict__" : Str)) = false := by decide) : PNX X c (.Subscript (.Name x p0) (.Slice none none none p2) pos) (nOwnAll i) :=
  PE.to (L2.pe_slice sl_all (L2.pe_var hN hv hd hcd) L2.po_none L2.po_none) fun σ H Q ⟨O, ρ, ph, w, h⟩ => by
    unfold nOwnAll at h
    cases e : ρ[i]? with
    | none => rw [e] at h; exact h.no
    | some s =>
      rw [e] at h
      cases s with
      | own xs =>
        obtain ⟨p, vs, e1, o, hp, r⟩ := h.env.ownd e
        exact ⟨.ref p, e1, .inl ⟨p, vs, rfl, .inl (.inl hp), fun p' hp' => by rw [cutL_eq]; exact h.ret (r.cut none none) p' hp'⟩⟩
      | _ => exact h.no
end
end FL
/-! len(e) of what may be an object -/
namespace FL
open PySem
open L2 (V Hp HO Cx Inv VK XK TE TT TA TS TI TG PE PT PA PS PSs PI PG Ends WX RelV Vals Rd upd upd_same upd_ne ne_of_none EP TP AP OpR R2 CallR FnOk Room Binds)
def lenT (T : PTab) : List D → M D
  | [.ins k ns xs] => (match findP k T with
    | some F => lenL k F [.ins k ns xs]
    | none => M.fail)
  | ds => un1 lenD ds
section
variable {X : Cx} {c : Cfg} {pos : Pos} {e : Expr} {fe : EF}
def rLenT (K : PySem.W.Frag) (cm : Nat → Addr) (T : PTab) : List V → Hp → VK → Prop := fun xs H Q => (∃ k F, findP k T = some F ∧ rLenO K cm (lenO k F) xs H Q) ∨ ∃ x n, xs = [x] ∧ L2.LenV K x H n ∧ Q (.int n) H
theorem lenT_ok {K : PySem.W.Frag} {cm : Nat → Addr} {T : PTab} : OpL K cm (lenT T) (rLenT K cm T) := by
  intro xa O Wx ρ σ ph H w Q ds vs r h
  by_cases ho : ∃ k ns xs, ds = [.ins k ns xs]
  · obtain ⟨k, ns, xs, rfl⟩ := ho
    unfold lenT at h
    simp only at h
    cases e : findP k T with
    | none => rw [e] at h; exact h.no
    | some F =>
      rw [e] at h
      exact .inl ⟨k, F, e, lenL_ok _ _ r h⟩
  · have : lenT T ds = un1 lenD ds := by
      unfold lenT
      split
      · rename_i k ns xs
        exact absurd ⟨k, ns, xs, rfl⟩ ho
      · rfl
    rw [this] at h
    exact .inr (len_ok _ _ r h)
theorem call_lenT {cm : Nat → Addr} {lv : Nat} {T : PTab} (hT : ∀ p ∈ T, HasM X.prog X.w X.K X.mg X.base cm "__len__" p.1 lv 1 p.2) (room : Room (lv + 1) X.A) : CallR X (.builtin "len") (rLenT X.K cm T) := by
  intro pins s σ H xs us Q I r h
  rcases h with ⟨k, F, e, h⟩ | h
  · exact call_lenO (findP_all (Q := fun k F => HasM X.prog X.w X.K X.mg X.base cm "__len__" k lv 1 F) hT e) room pins s σ H xs us Q I r h
  · exact L2.call_len pins s σ H xs us Q I r h
theorem px_lenT {p : Pos} {lv : Nat} (T : PTab) (hT : ∀ p ∈ T, HasM X.prog X.w X.K X.mg X.base c.cm "__len__" p.1 lv 1 p.2) (room : Room (lv + 1) X.A) (hg : L2.Gl X "len") (hm : X.mg "len" = none) (he : PX X c e fe) (hs : starEach [e] X.env = (false, eval e X.env) :: starEach [] X.env := by rfl) :
    PX X c (.Call (.Name "len" p) [e] [] pos) (eCall (lenT T) [fe]) := px_callB (call_lenT hT room) lenT_ok hg hm bt_len (pax_cons he pax_nil hs) (he := hs)
end
end FL

/-! F40: the head in one run of the kernel, its facts by an own Hook. -/
namespace FL
open PySem
open L2 (V Hp HO Cx Inv VK XK TE TT TA TS TI TG PE PT PA PS PSs PI PG Ends WX RelV Vals Rd upd upd_same upd_ne ne_of_none EP TP AP OpR R2 CallR FnOk Room Binds)
open He (ga ma eqO eqO_ok dflB dflB_ok kwdB kwdB_ok FnW frG frG_in asD ba)
/-- a def: how its object is found, what it is -/
structure DefH where
  ad : PySem.W.Frag → Addr
  name : Str
  qual : Str
  params : Arguments
  body : List Stmt
  scope : Scope
  dfl : List V := []
def fnH (K : PySem.W.Frag) (a : Addr) : FnW := match K.lookup a with
  | some ⟨_, _, .func fd, _⟩ => some (fd.name, fd.qualname, fd.params, fd.body, fd.scope, fd.globals, fd.closure, fd.builtins)
  | _ => none
def DefH.val (d : DefH) : FnW := some (d.name, d.qual, d.params, .stmts d.body, d.scope, mainGlobals, [], builtinsNs)
def DefH.ok (K : PySem.W.Frag) (d : DefH) : Bool := PySem.W.keepIn K (.ref (d.ad K)) && (decide (PySem.W.typeIn K (.ref (d.ad K)) = some (.type "function")) && (match K.lookup (d.ad K) with
  | some ⟨_, _, .func fd, _⟩ => PySem.W.codeIn K fd.code d.qual && (dflB K fd.defaults d.dfl && kwdB K fd.kwdefaults [])
  | _ => false))
theorem DefH.funD {K : PySem.W.Frag} {d : DefH} (e : fnH K (d.ad K) = d.val) (c : d.ok K = true) : (∃ fd, L2.FunD K d.name d.qual d.params d.body d.scope d.dfl [] (d.ad K) fd) ∧ PySem.W.isFn K (.ref (d.ad K)) = true ∧ PySem.W.typeIn K (.ref (d.ad K)) = some (.type "function") := by
  obtain ⟨kp, c1⟩ := ba c
  obtain ⟨ty, c2⟩ := ba c1
  have ty := of_decide_eq_true ty
  refine ⟨?_, by unfold PySem.W.isFn; rw [ty]; simp, ty⟩
  unfold fnH at e
  cases q : K.lookup (d.ad K) with
  | none =>
    rw [q] at c2
    cases c2
  | some o =>
    obtain ⟨oc, od, dt, osl⟩ := o
    rw [q] at c2 e
    cases dt with
    | func fd =>
      obtain ⟨m1, m2, m3, m4, m5, m6, m7, m8, m9, m10, m11, m12, m13, m14, m15⟩ := fd
      have e2 : (some (m1, m2, m3, m4, m5, m6, m7, m15) : FnW) = some (d.name, d.qual, d.params, .stmts d.body, d.scope, mainGlobals, [], builtinsNs) := e
      simp only [Option.some.injEq, Prod.mk.injEq] at e2
      obtain ⟨h1, h2, h3, h4, h5, h6, h7, h8⟩ := e2
      subst h1 h2 h3 h4 h5 h6 h7 h8
      have c3 : (PySem.W.codeIn K m13 d.qual && (dflB K m8 d.dfl && kwdB K m9 [])) = true := c2
      obtain ⟨k1, k2⟩ := ba c3
      obtain ⟨k3, k4⟩ := ba k2
      exact ⟨_, ⟨oc, od, m8, m9, m10, m11, m12, m13, m14, osl, rfl, q, k1, dflB_ok k3, kwdB_ok k4⟩, kp⟩
    | _ => cases c2
/-- what an object names, as far as the checks go -/
def refsH (o : Obj) : List Addr := match o.data with
  | .dict es _ => es.toList.flatMap fun e => He.refV e.val
  | .func fd => He.refV fd.code ++ He.refV fd.defaults
  | .cls cd => [cd.ns]
  | .fields vs => vs.toList.flatMap He.refV
  | _ => []
def nextH (g : Addr → Option Obj) (as : List Addr) : List Addr := as.flatMap fun a => match g a with
  | some o => refsH o
  | none => []
/-- level by level from the module's names -/
def asH (g : Addr → Option Obj) : Nat → List Addr → List Addr
  | 0, as => as
  | n + 1, as => as ++ asH g n (nextH g as)
abbrev AlH : Type := Bool × List FnW × List (Option (Option Value))
def obsH (cks : List (PySem.W.Frag → Bool)) (fns : List DefH) (bls : List (Str × String)) (K : PySem.W.Frag) : AlH := ((cks.all fun f => f K) && fns.all fun d => d.ok K, fns.map fun d => fnH K (d.ad K), bls.map fun p => PySem.W.nsIn K mainGlobals p.1)
def valH (fns : List DefH) (bls : List (Str × String)) : AlH := (true, fns.map DefH.val, bls.map fun p => some (some (.builtin p.2)))
def SaysH (cks : List (PySem.W.Frag → Bool)) (fns : List DefH) (bls : List (Str × String)) (K : PySem.W.Frag) : Prop := obsH cks fns bls K = valH fns bls
def obsHG (n : Nat) (cks : List (PySem.W.Frag → Bool)) (fns : List DefH) (bls : List (Str × String)) (g : Addr → Option Obj) : AlH := obsH cks fns bls (frG g (asH g n [mainGlobals]))
def hookH (n : Nat) (cks : List (PySem.W.Frag → Bool)) (fns : List DefH) (bls : List (Str × String)) : PySem.W.Hook where
  α := AlH
  obs := fun s => obsHG n cks fns bls s.heap.get?
  val := fun _ => valH fns bls
  says := fun _ h => ∃ K : PySem.W.Frag, K.In h ∧ SaysH cks fns bls K
  of := fun _ _ e => ⟨_, frG_in, e⟩
  keeps := fun _ _ _ ⟨K, hK, c⟩ k => ⟨K, PySem.W.Frag.In.keeps hK k, c⟩
theorem obsHG_eq {n : Nat} {cks : List (PySem.W.Frag → Bool)} {fns : List DefH} {bls : List (Str × String)} {g : Addr → Option Obj} {s : Shared} (h : ∀ a, g a = s.heap.get? a) : obsHG n cks fns bls g = (hookH n cks fns bls).obs s := by
  have e : g = s.heap.get? := funext h
  rw [e] <;> rfl
section
variable {cks : List (PySem.W.Frag → Bool)} {fns : List DefH} {bls : List (Str × String)} {K : PySem.W.Frag}
theorem SaysH.fact (c : SaysH cks fns bls K) (i : Nat) {f : PySem.W.Frag → Bool} (h : cks[i]? = some f := by rfl) : f K = true := by
  have c1 := (ba (show ((cks.all fun f => f K) && fns.all fun d => d.ok K) = true from congrArg (fun z : AlH => z.1) c)).1
  exact List.all_eq_true.mp c1 f (List.mem_of_getElem? h)
theorem SaysH.def_ (c : SaysH cks fns bls K) (i : Nat) {d : DefH} (h : fns[i]? = some d := by rfl) : (∃ fd, L2.FunD K d.name d.qual d.params d.body d.scope d.dfl [] (d.ad K) fd) ∧ PySem.W.isFn K (.ref (d.ad K)) = true ∧ PySem.W.typeIn K (.ref (d.ad K)) = some (.type "function") := by
  have c2 := (ba (show ((cks.all fun f => f K) && fns.all fun d => d.ok K) = true from congrArg (fun z : AlH => z.1) c)).2
  have e : fns.map (fun d => fnH K (d.ad K)) = fns.map DefH.val := congrArg (fun z : AlH => z.2.1) c
  have e2 : (fns.map fun d => fnH K (d.ad K))[i]? = (fns.map DefH.val)[i]? := by rw [e]
  rw [List.getElem?_map, List.getElem?_map, h] at e2
  exact DefH.funD (Option.some.inj e2) (List.all_eq_true.mp c2 d (List.mem_of_getElem? h))
end
theorem SaysH.blt {cks : List (PySem.W.Frag → Bool)} {fns : List DefH} {bls : List (Str × String)} {K : PySem.W.Frag} (c : SaysH cks fns bls K) (i : Nat) {p : Str × String} (h : bls[i]? = some p := by rfl) : PySem.W.nsIn K mainGlobals p.1 = some (some (.builtin p.2)) := by
  have e : (bls.map fun p => PySem.W.nsIn K mainGlobals p.1) = (bls.map fun p => some (some (.builtin p.2)) : List (Option (Option Value))) := congrArg (fun z : AlH => z.2.2) c
  have e2 : (bls.map fun p => PySem.W.nsIn K mainGlobals p.1)[i]? = (bls.map fun p => some (some (.builtin p.2)) : List (Option (Option Value)))[i]? := by rw [e]
  rw [List.getElem?_map, List.getElem?_map, h] at e2
  exact Option.some.inj e2
/-! ### checks -/
def ckFree (x : Str) (K : PySem.W.Frag) : Bool := eqO (PySem.W.nsIn K mainGlobals x) (some none)
def ckGlo (x : Str) (K : PySem.W.Frag) : Bool := eqO (PySem.W.nsIn K mainGlobals x) (some (some (.ref (ga K x))))
def ckInt (x : Str) (i : Int) (K : PySem.W.Frag) : Bool := match PySem.W.nsIn K mainGlobals x with
  | some (some (.int j _)) => decide (j = i)
  | _ => false
def ckTup (x : Str) (i j : Int) (K : PySem.W.Frag) : Bool := ckGlo x K && (match K.lookup (ga K x) with
  | some ⟨.type c, _, .seq its 0, _⟩ => decide (c = "tuple") && (match its.toList with
    | [.int a _, .int b _] => decide (a = i) && decide (b = j)
    | _ => false)
  | _ => false)
/-- the getter's address of the property n of the class at C -/
def pa (K : PySem.W.Frag) (C : Addr) (n : Str) : Addr := match PySem.W.recIn K (ma K C n) "property" with
  | some (.ref a :: _) => a
  | _ => 0
def ckProp (C n : Str) (K : PySem.W.Frag) : Bool := eqO (PySem.W.findIn K (.ref (ga K C)) n) (some (some (.ref (ma K (ga K C) n)))) && (eqO (PySem.W.specialIn K (.ref (ma K (ga K C) n)) "__get__") (some (some (.builtin "property.__get__"))) && (decide (PySem.W.takesIn K (.ref (ma K (ga K C) n)) = some true) &&
  (match PySem.W.recIn K (ma K (ga K C) n) "property" with
    | some (.ref _ :: _) => true
    | _ => false)))
def ckMeth (C n : Str) (K : PySem.W.Frag) : Bool := eqO (PySem.W.findIn K (.ref (ga K C)) n) (some (some (.ref (ma K (ga K C) n))))
def ckExc (C : Str) (K : PySem.W.Frag) : Bool := (match K.lookup (ga K C) with
  | some ⟨.type t, _, .cls cd, sl⟩ => decide (t = "type") && (match cd.mro, sl.toList with
    | .ref C' :: bm, [_, _, _, _, some (.builtin n), _] => C' == ga K C && (n == "ValueError.__new__" && (!cd.hasDel && (cd.hasDict && PySem.HandSPX.refsVE bm)))
    | _, _ => false)
  | _ => false) && (eqO (PySem.W.findIn K (.ref (ga K C)) "__setattr__") (some (some (.builtin "object.__setattr__"))) && (decide (PySem.W.subIn K (.ref (ga K C)) (.type "BaseException") = some true) && (decide (PySem.W.typeIn K (.ref (ga K C)) = some (.type "type")) && PySem.W.keepIn K (.ref (ga K C)))))
def ckNoat (C n : Str) (K : PySem.W.Frag) : Bool := eqO (PySem.W.findIn K (.ref (ga K C)) n) (some none)
def ckExm (x y : Str) (b : Bool) (K : PySem.W.Frag) : Bool := decide (PySem.W.exmOne K (.ref (ga K x)) (.ref (ga K y)) = some b)
def ckXf (x : Str) (K : PySem.W.Frag) : Bool := L2.xfB K (ga K x)
def ckCls (x : Str) (fs : List Str) (K : PySem.W.Frag) : Bool := clsB K (ga K x) fs
def ckCn (K : PySem.W.Frag) : Bool := eqO (PySem.W.specialIn K (.builtin "object.__class__") "__get__") (some (some (.builtin "getset_descriptor.__get__")))
def ckCt (K : PySem.W.Frag) : Bool := decide (PySem.W.takesIn K (.builtin "object.__class__") = some true)
section
variable {K : PySem.W.Frag} {h : Heap} {mg : Str → Option Value} {x y C n : Str}
theorem ckFree_ok (X : K.In h) (G : h.Ns mainGlobals mg) (c : ckFree x K = true) : mg x = none := PySem.W.mg_none_of X G (eqO_ok c)
theorem ckGlo_ok (X : K.In h) (G : h.Ns mainGlobals mg) (c : ckGlo x K = true) : mg x = some (.ref (ga K x)) := PySem.W.mg_of X G (eqO_ok c)
theorem ckInt_ok {i : Int} (X : K.In h) (G : h.Ns mainGlobals mg) (c : ckInt x i K = true) : GInt mg x i := by
  unfold ckInt at c
  split at c
  · rename_i j t e
    have e' : j = i := of_decide_eq_true c
    subst e'
    exact ⟨t, PySem.W.mg_of X G e⟩
  · cases c
theorem ckTup_ok {i j : Int} (X : K.In h) (G : h.Ns mainGlobals mg) (c : ckTup x i j K = true) : GTup K mg x i j := by
  obtain ⟨c1, c2⟩ := ba c
  split at c2
  · rename_i t dd its sl e
    obtain ⟨c3, c4⟩ := ba c2
    split at c4
    · rename_i a ta b tb el
      obtain ⟨c5, c6⟩ := ba c4
      have h1 : a = i := of_decide_eq_true c5
      have h2 : b = j := of_decide_eq_true c6
      have h3 : t = "tuple" := of_decide_eq_true c3
      subst h1 h2 h3
      obtain ⟨l⟩ := its
      simp only at el
      subst el
      exact ⟨_, _, _, _, _, ckGlo_ok X G c1, e⟩
    · cases c4
  · cases c2
theorem ckMeth_ok (c : ckMeth C n K = true) : PySem.W.findIn K (.ref (ga K C)) n = some (some (.ref (ma K (ga K C) n))) := eqO_ok c
theorem ckNoat_ok (c : ckNoat C n K = true) : PySem.W.findIn K (.ref (ga K C)) n = some none := eqO_ok c
theorem ckExm_ok {b : Bool} (c : ckExm x y b K = true) : PySem.W.exmOne K (.ref (ga K x)) (.ref (ga K y)) = some b := of_decide_eq_true c
theorem ckExc_ok (c : ckExc C K = true) : L2.OexC K (ga K C) := by
  obtain ⟨c1, c2⟩ := ba c
  obtain ⟨d1, c3⟩ := ba c2
  obtain ⟨d2, c4⟩ := ba c3
  obtain ⟨d3, d4⟩ := ba c4
  refine ⟨?_, eqO_ok d1, of_decide_eq_true d2, of_decide_eq_true d3, d4⟩
  split at c1
  · rename_i t dd cd sl ho
    obtain ⟨t1, cc⟩ := ba c1
    clear c1
    have t2 : t = "type" := of_decide_eq_true t1
    clear t1
    subst t2
    split at cc
    · rename_i C' bm k0 k1 k2 k3 m k5 hm hs
      obtain ⟨f1, c5⟩ := ba cc
      obtain ⟨f2, c6⟩ := ba c5
      obtain ⟨f3, c7⟩ := ba c6
      obtain ⟨f4, f5⟩ := ba c7
      have g1 := beq_iff_eq.mp f1
      have g2 := beq_iff_eq.mp f2
      subst g1 g2
      obtain ⟨nm, bs, mro, ns, qn, hd, sn, sub, ab, col, del⟩ := cd
      simp only [Bool.not_eq_true'] at hm f3 f4
      subst hm f3 f4
      obtain ⟨l⟩ := sl
      simp only at hs
      subst hs
      exact ⟨_, _, _, _, _, _, _, _, _, _, _, _, _, _, _, ho, f5⟩
    · cases cc
  · cases c1
theorem ckProp_ok (c : ckProp C n K = true) : L2.PropOf K (ga K C) n (ma K (ga K C) n) (pa K (ga K C) n) := by
  obtain ⟨c1, c2⟩ := ba c
  obtain ⟨c3, c4⟩ := ba c2
  obtain ⟨c5, c6⟩ := ba c4
  refine ⟨eqO_ok c1, eqO_ok c3, of_decide_eq_true c5, ?_⟩
  split at c6
  · rename_i a r e
    refine ⟨r, ?_⟩
    unfold pa
    rw [e]
  · cases c6
end
/-! defs by their data -/
section
variable {K : PySem.W.Frag} {h : Heap} {mg : Str → Option Value} {x : Str} {st : Stmt} {dvs : List V}
theorem defH_at {d : DefH} (hd : d.ad K = ga K x) (e : mg x = some (.ref (ga K x))) (D : (∃ fd, L2.FunD K d.name d.qual d.params d.body d.scope d.dfl [] (d.ad K) fd) ∧ PySem.W.isFn K (.ref (d.ad K)) = true ∧ PySem.W.typeIn K (.ref (d.ad K)) = some (.type "function"))
    (h1 : d.name = x := by rfl) (h2 : d.qual = x := by rfl) (h3 : d.params = L2.defArgs st := by rfl) (h4 : d.body = L2.defBody st := by rfl) (h5 : d.scope = L2.defScope st := by rfl) (h6 : d.dfl = dvs := by rfl) : ∃ f fd, DefAt K mg x st dvs f fd := by
  obtain ⟨⟨fd, F⟩, _⟩ := D
  rw [h1, h2, h3, h4, h5, h6, hd] at F
  exact ⟨_, fd, e, F⟩
theorem methH_at {d : DefH} {C n qual : Str} (hd : d.ad K = ma K (ga K C) n) (e : PySem.W.findIn K (.ref (ga K C)) n = some (some (.ref (ma K (ga K C) n)))) (D : (∃ fd, L2.FunD K d.name d.qual d.params d.body d.scope d.dfl [] (d.ad K) fd) ∧ PySem.W.isFn K (.ref (d.ad K)) = true ∧ PySem.W.typeIn K (.ref (d.ad K)) = some (.type "function"))
    (h1 : d.name = n := by rfl) (h2 : d.qual = qual := by rfl) (h3 : d.params = L2.defArgs st := by rfl) (h4 : d.body = L2.defBody st := by rfl) (h5 : d.scope = L2.defScope st := by rfl) (h6 : d.dfl = dvs := by rfl) : ∃ f fd, MethAt K (ga K C) n qual st dvs f fd := by
  obtain ⟨⟨fd, F⟩, i, _⟩ := D
  rw [h1, h2, h3, h4, h5, h6, hd] at F
  rw [hd] at i
  exact ⟨_, fd, e, i, F⟩
theorem propH_at {d : DefH} {C n qual : Str} (hd : d.ad K = pa K (ga K C) n) (c : ckProp C n K = true) (D : (∃ fd, L2.FunD K d.name d.qual d.params d.body d.scope d.dfl [] (d.ad K) fd) ∧ PySem.W.isFn K (.ref (d.ad K)) = true ∧ PySem.W.typeIn K (.ref (d.ad K)) = some (.type "function"))
    (h1 : d.name = n := by rfl) (h2 : d.qual = qual := by rfl) (h3 : d.params = L2.defArgs st := by rfl) (h4 : d.body = L2.defBody st := by rfl) (h5 : d.scope = L2.defScope st := by rfl) (h6 : d.dfl = [] := by rfl) : ∃ f fd, PropAt K (ga K C) n qual st f fd := by
  obtain ⟨⟨fd, F⟩, _⟩ := D
  rw [h1, h2, h3, h4, h5, h6, hd] at F
  exact ⟨_, fd, ⟨_, ckProp_ok c⟩, F⟩
end
section
variable {P : Program} {w : World} {K : PySem.W.Frag} {mg : Str → Option Value} {h : Heap} {base : Heap}
theorem excG1 {x qual : Str} {st : Stmt} {C f : Addr} {n0 n1 f1 : Str} {ps : List Str} {d : DefH} {p1 p2 p3 p4 : Pos} (T : L2.OexC K C) (iC : PySem.W.findIn K (.ref C) "__init__" = some (some (.ref f))) (hf : d.ad K = f) (D : (∃ fd, L2.FunD K d.name d.qual d.params d.body d.scope d.dfl [] (d.ad K) fd) ∧ PySem.W.isFn K (.ref (d.ad K)) = true ∧ PySem.W.typeIn K (.ref (d.ad K)) = some (.type "function")) (e1 : d.name = "__init__") (e2 : d.qual = qual) (e3 : d.params = L2.defArgs st) (e4 : d.body = L2.defBody st) (e5 : d.scope = L2.defScope st) (e6 : d.dfl = []) (S : L2.FnScope [n0, n1] ps (L2.defScope st)) (hps : ps = [n0, n1])
    (hm : mg x = some (.ref C)) (hno : PySem.W.findIn K (.ref C) f1 = some none)
    (eb : L2.defBody st = [.Assign [.Attribute (.Name n0 p1) f1 p2] (.Name n1 p3) p4])
    (hb : ∀ (kV doc pm : Value) (an : Option Addr) (cdv ct : Value) (us : List Value), us.length = ps.length → bindArgs (PySem.W.fnOf "__init__" qual (L2.defArgs st) (L2.defBody st) (L2.defScope st) .none kV doc pm an cdv ct) ⟨us, []⟩ = pure (ps.zip us))
    (v0 : L2.Vis (L2.defScope st) n0 := by exact Or.inl rfl) (v1 : L2.Vis (L2.defScope st) n1 := by exact Or.inl rfl) (d0 : (n0 == ("__debug__" : Str)) = false := by decide) (d1 : (n1 == ("__debug__" : Str)) = false := by decide) (c0 : (n0 == ("__classdict__" : Str)) = false := by decide) (c1 : (n1 == ("__classdict__" : Str)) = false := by decide)
    (hsw : ∀ env : PySem.Env, swapsWith (.Name n1 p3) (some (.Attribute (.Name n0 p1) f1 p2)) p4.line env = pure false := by intro _; rfl) : ExcH P w K mg base x C [f1] := by
  obtain ⟨⟨fd, F⟩, _, tI⟩ := D
  rw [e1, e2, e3, e4, e5, e6, hf] at F
  rw [hf] at tI
  have B := F.bindsN hb
  rw [eb] at F
  exact ⟨f, fd, ps, T, iC, tI, init1_ok F S (by rw [hps]; rfl) v0 v1 d0 d1 c0 c1 hsw, B, hm, fun n hn => by rw [List.mem_singleton.mp hn]; exact hno⟩
theorem excG2 {x qual : Str} {st : Stmt} {C f : Addr} {n0 n1 n2 f1 f2 : Str} {ps : List Str} {d : DefH} {p1 p2 p3 p4 p5 p6 p7 p8 : Pos} (T : L2.OexC K C) (iC : PySem.W.findIn K (.ref C) "__init__" = some (some (.ref f))) (hf : d.ad K = f) (D : (∃ fd, L2.FunD K d.name d.qual d.params d.body d.scope d.dfl [] (d.ad K) fd) ∧ PySem.W.isFn K (.ref (d.ad K)) = true ∧ PySem.W.typeIn K (.ref (d.ad K)) = some (.type "function")) (e1 : d.name = "__init__") (e2 : d.qual = qual) (e3 : d.params = L2.defArgs st) (e4 : d.body = L2.defBody st) (e5 : d.scope = L2.defScope st) (e6 : d.dfl = []) (S : L2.FnScope [n0, n1, n2] ps (L2.defScope st)) (hps : ps = [n0, n1, n2])
    (hm : mg x = some (.ref C)) (hno : PySem.W.findIn K (.ref C) f1 = some none) (hno2 : PySem.W.findIn K (.ref C) f2 = some none)
    (eb : L2.defBody st = [.Assign [.Attribute (.Name n0 p1) f1 p2] (.Name n1 p3) p4, .Assign [.Attribute (.Name n0 p5) f2 p6] (.Name n2 p7) p8])
    (hb : ∀ (kV doc pm : Value) (an : Option Addr) (cdv ct : Value) (us : List Value), us.length = ps.length → bindArgs (PySem.W.fnOf "__init__" qual (L2.defArgs st) (L2.defBody st) (L2.defScope st) .none kV doc pm an cdv ct) ⟨us, []⟩ = pure (ps.zip us))
    (v0 : L2.Vis (L2.defScope st) n0 := by exact Or.inl rfl) (v1 : L2.Vis (L2.defScope st) n1 := by exact Or.inl rfl) (v2 : L2.Vis (L2.defScope st) n2 := by exact Or.inl rfl) (d0 : (n0 == ("__debug__" : Str)) = false := by decide) (d1 : (n1 == ("__debug__" : Str)) = false := by decide) (d2 : (n2 == ("__debug__" : Str)) = false := by decide)
    (c0 : (n0 == ("__classdict__" : Str)) = false := by decide) (c1 : (n1 == ("__classdict__" : Str)) = false := by decide) (c2 : (n2 == ("__classdict__" : Str)) = false := by decide)
    (hs1 : ∀ env : PySem.Env, swapsWith (.Name n1 p3) (some (.Attribute (.Name n0 p1) f1 p2)) p4.line env = pure false := by intro _; rfl) (hs2 : ∀ env : PySem.Env, swapsWith (.Name n2 p7) (some (.Attribute (.Name n0 p5) f2 p6)) p8.line env = pure false := by intro _; rfl) : ExcH P w K mg base x C [f1, f2] := by
  obtain ⟨⟨fd, F⟩, _, tI⟩ := D
  rw [e1, e2, e3, e4, e5, e6, hf] at F
  rw [hf] at tI
  have B := F.bindsN hb
  rw [eb] at F
  exact ⟨f, fd, ps, T, iC, tI, init2_ok F S (by rw [hps]; rfl) v0 v1 v2 d0 d1 d2 c0 c1 c2 hs1 hs2, B, hm, fun n hn => by
    rcases List.mem_cons.mp hn with e | hn
    · rw [e]; exact hno
    · rw [List.mem_singleton.mp hn]; exact hno2⟩
end
/-! ### ends -/
theorem law_endH {l : PySem.W.OpenLaw} {n k N : Nat} {q : PySem.Program} {loose : List Str} {XP : (Str → Option Value) → Heap → Prop} {d : DefRec} {cks : List (PySem.W.Frag → Bool)} {fns : List DefH} {bls : List (Str × String)} {F : List D → M D} (hn : l.most = some n) (hn2 : n ≤ sizeLine) (hdf : d.params.defaults = []) (hr : Room k callerA)
    (plain : ∀ ns : List Int, ns.length ≤ n → ∃ w', F [.frz (ns.map D.int)] none = .ok (.bl true) w')
    (G : ∀ (K : PySem.W.Frag) (w : World) (mg : Str → Option Value) (h : Heap), K.In h → h.Ns mainGlobals mg → SaysH cks fns bls K → ∃ (cm : Nat → Addr) (f : Addr) (fd : FuncData), mg d.name = some (.ref f) ∧ (∀ (s : Shared) (u : Value), BindsTo s fd ⟨[u], []⟩ [("script", u)]) ∧
      ∀ base : Heap, K.In base → base.Ns mainGlobals mg → FnOk l.prog w K mg base (L2N.CX l.prog w) k f fd ["script"] (spX K cm 1 F)) :
    PySem.W.WalkO q loose XP (hookH N cks fns bls).says l.row.toRowW d [] (fun f vs => PySem.call f vs) := by
  refine Att.attach_call hn hdf fun w s0 s1 mg mb fa o pm cd doc a vs ns T Y ho hd hcd hmg hobj hi hl hg => ?_
  obtain ⟨K, KX, c⟩ := Y
  obtain ⟨cm, f, fd, e, hb, hF⟩ := G K w mg _ KX T.T.g c
  rw [hmg] at e
  cases e
  exact L2.law_call KX T.T.g T.T.b T.T.builtins T.T.nolimit hg hobj hi (Nat.le_trans hl hn2) hr hF hb (fun H _ S => sp_end plain H a ns hl S) fun H e s' h => cx_end h
theorem law_endTH {l : PySem.W.OpenLaw} {n N : Nat} {q : PySem.Program} {loose : List Str} {XP : (Str → Option Value) → Heap → Prop} {d : DefRec} {cks : List (PySem.W.Frag → Bool)} {fns : List DefH} {bls : List (Str × String)} {F : List D → M D} (hn : l.most = some n) (hn2 : n ≤ sizeLine) (hdf : d.params.defaults = [])
    (plain : ∀ ns : List Int, ns.length ≤ n → ∃ w', F [.frz (ns.map D.int)] none = .ok (.bl true) w')
    (G : ∀ (K : PySem.W.Frag) (w : World) (mg : Str → Option Value) (h : Heap), K.In h → h.Ns mainGlobals mg → SaysH cks fns bls K → ∃ (cm : Nat → Addr) (f : Addr) (fd : FuncData), mg d.name = some (.ref f) ∧ (∀ (s : Shared) (u : Value), BindsTo s fd ⟨[u], []⟩ [("script", u)]) ∧
      ∀ base : Heap, K.In base → base.Ns mainGlobals mg → TopOk l.prog w K mg base f fd "script" (spX K cm 1 F)) :
    PySem.W.WalkO q loose XP (hookH N cks fns bls).says l.row.toRowW d [] (fun f vs => PySem.call f vs) := by
  refine Att.attach_call hn hdf fun w s0 s1 mg mb fa o pm cd doc a vs ns T Y ho hd hcd hmg hobj hi hl hg => ?_
  obtain ⟨K, KX, c⟩ := Y
  obtain ⟨cm, f, fd, e, hb, hF⟩ := G K w mg _ KX T.T.g c
  rw [hmg] at e
  cases e
  exact top_call KX T.T.g T.T.b T.T.builtins T.T.nolimit hg hobj hi (Nat.le_trans hl hn2) hF hb fun H S => sp_end plain H a ns hl S
theorem law_endTYH {l : PySem.W.OpenLaw} {n N : Nat} {q : PySem.Program} {loose : List Str} {XP : (Str → Option Value) → Heap → Prop} {d : DefRec} {cks : List (PySem.W.Frag → Bool)} {fns : List DefH} {bls : List (Str × String)} {F : List D → M D} (hn : l.most = some n) (hn2 : n ≤ sizeLine) (hdf : d.params.defaults = [])
    (plain : ∀ ns : List Int, ns.length ≤ n → ∃ w', F [.frz (ns.map D.int)] none = .ok (.bl true) w')
    (G : ∀ (K : PySem.W.Frag) (w : World) (mg : Str → Option Value) (h : Heap), K.In h → h.Ns mainGlobals mg → SaysH cks fns bls K → ∃ (cm : Nat → Addr) (f : Addr) (fd : FuncData), mg d.name = some (.ref f) ∧ (∀ (s : Shared) (u : Value), BindsTo s fd ⟨[u], []⟩ [("script", u)]) ∧
      ∀ base : Heap, K.In base → base.Ns mainGlobals mg → TopOk l.prog w K mg base f fd "script" (spXT K cm 1 F)) :
    PySem.W.WalkO q loose XP (hookH N cks fns bls).says l.row.toRowW d [] (fun f vs => PySem.call f vs) := by
  refine Att.attach_call hn hdf fun w s0 s1 mg mb fa o pm cd doc a vs ns T Y ho hd hcd hmg hobj hi hl hg => ?_
  obtain ⟨K, KX, c⟩ := Y
  obtain ⟨cm, f, fd, e, hb, hF⟩ := G K w mg _ KX T.T.g c
  rw [hmg] at e
  cases e
  exact top_callY KX T.T.g T.T.b T.T.builtins T.T.nolimit hg hobj hi (Nat.le_trans hl hn2) hF hb fun H few S => ⟨fun b us e => (few b).elim (fun z => (by rw [z] at e; cases e)) (fun ⟨o, xs, z⟩ => (by rw [z] at e; cases e)), sp_end plain H a ns hl S⟩
end FL

/-! F41: for over a list or a tuple, while the body stores into lists of lists of the def's own making. -/
namespace FL
open PySem
open L2 (It V Hp HO Cx Inv VK XK TE TT TA TS TI TG PE PT PA PS PSs PI PG Ends WX RelV Vals Rd upd upd_same upd_ne ne_of_none EP TP AP OpR R2 CallR FnOk Room Binds)
/-! ### what stands at such a loop's start, as if it had stood at the entry -/
def Chg (ρ : Env) (σ : St) (H : Hp) (ph : Option Addr) (a : Addr) : Prop :=
  ph = some a ∨ (∃ (i : Nat) (xs : List D), ρ[i]? = some (.own xs) ∧ σ[i]? = some (some (.ref a))) ∨
  ∃ (i : Nat) (ds : List D) (p : Addr) (vs : List V), ρ[i]? = some (.nest ds) ∧ σ[i]? = some (some (.ref p)) ∧ H p = some (.lst vs) ∧ (a = p ∨ ∃ (j : Nat) (xs : List D), ds[j]? = some (.lst xs) ∧ vs[j]? = some (.ref a))
open Classical in
noncomputable def lift (B H : Hp) (S : Addr → Prop) : Hp := fun a => if S a then B a else H a
theorem lift_s {B H : Hp} {S : Addr → Prop} {a : Addr} (h : S a) : lift B H S a = B a := if_pos h
theorem lift_n {B H : Hp} {S : Addr → Prop} {a : Addr} (h : ¬ S a) : lift B H S a = H a := if_neg h
section
variable {K : PySem.W.Frag} {cm : Nat → Addr} {xa : Option (Addr × Nat × Addr)} {q : Sq} {ρ : Env} {σ : St} {H : Hp} {ph : Option Addr} {w : Wd}
theorem chg_ph0 (h : StS K cm xa q ρ ph w σ H) {a : Addr} (e : q.ph0 = some a) : Chg ρ σ H ph a := by
  rcases h.phs with z | ⟨z, _⟩
  · exact .inl (z.trans e)
  · rw [z] at e; cases e
theorem lift_le (h : StS K cm xa q ρ ph w σ H) (a : Addr) (o : HO) (e : q.B a = some o) : lift q.B H (Chg ρ σ H ph) a = some o := by
  by_cases s : Chg ρ σ H ph a
  · rw [lift_s s]; exact e
  · rw [lift_n s]
    exact h.base a o (fun z => s (chg_ph0 h z)) e
/-- all that stands, but for what may change, is held for the entry's -/
theorem StS.up (h : StS K cm xa q ρ ph w σ H) : StS K cm xa { q with B := lift q.B H (Chg ρ σ H ph) } ρ ph w σ H := by
  refine ⟨h.env, h.hand, fun b o n e => ?_, ?_, fun a o => ?_, h.inj, fun i p xs e1 e2 => ?_, fun i ds v e1 e2 => ?_⟩
  · by_cases s : Chg ρ σ H ph b
    · exact h.base b o n ((lift_s s).symm.trans e)
    · exact (lift_n s).symm.trans e
  · rcases h.phs with z | ⟨z, p, z1, z2⟩
    · exact .inl z
    · exact .inr ⟨z, p, z1, (lift_s (.inl z1)).trans z2⟩
  · obtain ⟨y, u, z, k⟩ := h.o0 a o
    exact ⟨y, u, lift_le h a u z, k⟩
  · exact (lift_s (.inr (.inl ⟨i, xs, e1, e2⟩))).trans (h.fresh i p xs e1 e2)
  · obtain ⟨p, vs, rfl, h1, h2, h3⟩ := h.news i ds v e1 e2
    refine ⟨p, vs, rfl, (lift_s (.inr (.inr ⟨i, ds, p, vs, e1, e2, h2, .inl rfl⟩))).trans h1, h2, fun j xs ej => ?_⟩
    obtain ⟨b, b1, b2, b3⟩ := h3 j xs ej
    exact ⟨b, b1, (lift_s (.inr (.inr ⟨i, ds, p, vs, e1, e2, h2, .inr ⟨j, xs, ej, b1⟩⟩))).trans b2, b3⟩
theorem none_le {B B' : Hp} (le : ∀ a o, B a = some o → B' a = some o) {a : Addr} (h : B' a = none) : B a = none := by
  cases e : B a with
  | none => rfl
  | some o => rw [le a o e] at h; cases h
theorem phs_le {B B' : Hp} (le : ∀ a o, B a = some o → B' a = some o) {p0 p1 : Option Addr} (h : PhS B' p0 p1) : PhS B p0 p1 :=
  h.imp id fun ⟨z, p, z1, z2⟩ => ⟨z, p, z1, none_le le z2⟩
theorem StS.down {B' : Hp} (le : ∀ a o, q.B a = some o → B' a = some o) (o0 : OTr q.B q.O0 q.ph0) (h : StS K cm xa { q with B := B' } ρ ph w σ H) : StS K cm xa q ρ ph w σ H :=
  ⟨h.env, h.hand, fun b o n e => h.base b o n (le b o e), phs_le le h.phs, o0, h.inj, fun i p xs e1 e2 => none_le le (h.fresh i p xs e1 e2), fun i ds v e1 e2 => by
    obtain ⟨p, vs, rfl, h1, h2, h3⟩ := h.news i ds v e1 e2
    exact ⟨p, vs, rfl, none_le le h1, h2, fun j xs ej => (h3 j xs ej).imp fun b z => ⟨z.1, none_le le z.2.1, z.2.2⟩⟩⟩
theorem Post3.up {B' : Hp} {Wx : WX} {D : Ends} {r : SR} (le : ∀ a o, q.B a = some o → B' a = some o) (o0 : OTr q.B q.O0 q.ph0) (h : Post3 K cm xa q Wx D r) : Post3 K cm xa { q with B := B' } Wx D r := by
  cases r with
  | nx ρ' w' => exact fun σ' H' ph' s => h σ' H' ph' (s.down le o0)
  | bk ρ' w' => exact fun σ' H' ph' s => h σ' H' ph' (s.down le o0)
  | ct ρ' w' => exact fun σ' H' ph' s => h σ' H' ph' (s.down le o0)
  | rt d w' => exact fun v H' ph' x s hh r => h v H' ph' (fun b o n e => x b o n (le b o e)) (phs_le le s) hh r
  | ex c ns xs ρ' w' => exact fun σ' H' ph' dd vs s hd l r => h σ' H' ph' dd vs (s.down le o0) hd l r
  | bad => exact h
/-- what may change is a list -/
theorem chg_lst (h : StS K cm xa q ρ ph w σ H) {a : Addr} (s : Chg ρ σ H ph a) : ∃ vs, H a = some (.lst vs) := by
  rcases s with s | ⟨i, xs, e1, e2⟩ | ⟨i, ds, p, vs, e1, e2, e3, s⟩
  · subst s
    have hh := h.hand
    cases w with
    | none => exact hh.elim
    | some hs => exact ⟨_, hh.choose_spec.1⟩
  · obtain ⟨p, vs, e3, _, hp, _⟩ := h.env.ownd e1
    rw [e2] at e3; cases e3
    exact ⟨vs, hp⟩
  · rcases s with rfl | ⟨j, xs, ej, ev⟩
    · exact ⟨vs, e3⟩
    · obtain ⟨v, e4, r⟩ := h.env.nestd e1
      rw [e2] at e4; cases e4
      obtain ⟨p', vs', ez, ⟨_, hp⟩, rl⟩ := lst_of r
      cases ez
      rw [e3] at hp; cases hp
      obtain ⟨v', e5, r'⟩ := rl.get ej
      rw [ev] at e5; cases e5
      obtain ⟨b, us, eb, ⟨_, hb⟩, _⟩ := lst_of r'
      cases eb
      exact ⟨us, hb⟩
end
section
variable {K : PySem.W.Frag} {cm : Nat → Addr} {H H' : Hp} {N N' : NS} {ph ph' : Option Addr}
mutual
/-- what holds no list stands where all but lists is kept -/
theorem rep_up (k : ∀ a o, ¬ N a → H a = some o → (∀ us, o ≠ .lst us) → H' a = some o ∧ ¬ N' a) : ∀ (d : D) (v : V), noLst d = true → Rep K cm H N ph d v → Rep K cm H' N' ph' d v
  | .non, _, _, h => by simpa [Rep] using h
  | .bl _, _, _, h => by simpa [Rep] using h
  | .int _, _, _, h => by simpa [Rep] using h
  | .str _, _, _, h => by simpa [Rep] using h
  | .tup ds, v, e, h => by
    simp only [Rep, noLst] at h e ⊢
    obtain ⟨a, vs, e1, t, r⟩ := h
    refine ⟨a, vs, e1, ?_, repl_up k ds vs e r⟩
    rcases t with ⟨n, t | ⟨o, t⟩⟩ | t
    · obtain ⟨z1, z2⟩ := k a _ n t (fun us z => by cases z)
      exact .inl ⟨z2, .inl z1⟩
    · obtain ⟨z1, z2⟩ := k a _ n t (fun us z => by cases z)
      exact .inl ⟨z2, .inr ⟨o, z1⟩⟩
    · exact .inr t
  | .lst _, _, e, _ => by simp [noLst] at e
  | .frz _, _, e, _ => by simp [noLst] at e
  | .ins c ns ds, v, e, h => by
    simp only [Rep, noLst] at h e ⊢
    obtain ⟨a, dx, vs, e1, n, t, l, r⟩ := h
    obtain ⟨z1, z2⟩ := k a _ n t (fun us z => by cases z)
    exact ⟨a, dx, vs, e1, z2, z1, l, repl_up k ds vs e r⟩
  | .hand, _, e, _ => by simp [noLst] at e
theorem repl_up (k : ∀ a o, ¬ N a → H a = some o → (∀ us, o ≠ .lst us) → H' a = some o ∧ ¬ N' a) : ∀ (ds : List D) (vs : List V), noLstL ds = true → RepL K cm H N ph ds vs → RepL K cm H' N' ph' ds vs
  | [], _, _, h => by simpa [RepL] using h
  | d :: ds, vs, e, h => by
    simp only [RepL, noLstL, Bool.and_eq_true] at h e ⊢
    obtain ⟨v, r, e1, h1, h2⟩ := h
    exact ⟨v, r, e1, rep_up k d v e.1 h1, repl_up k ds r e.2 h2⟩
end
end
def unlI (xs : List D) : D → Bool
  | .lst ys => unlL xs ys
  | _ => true
def unlS (xs : List D) : Slot → Bool
  | .nest ds => unlL xs ds && ds.all (unlI xs)
  | _ => true
/-- for over a list that is surely none of those that the body stores into -/
def sForL (e : EF) (g : GF) (b : SF) : SF := fun ρ w => onE (M.bind (e ρ) seqOf) ρ w fun xs w' => if (noLstL xs && ρ.all (unlS xs)) = true then forL g b xs ρ w' else .bad
def relZ (K : PySem.W.Frag) (cm : Nat → Addr) (O : NS) : Hp → Option Addr → List D → It → Prop := fun H ph xs J => ∃ a vs, RepL K cm H (OO O ph) ph xs vs ∧ ((J = L2.Itl K a ∧ LN K H (OO O ph) a vs) ∨ (J = L2.Itt K a ∧ TN K H (OO O ph) a vs))
section
variable {K : PySem.W.Frag} {cm : Nat → Addr} {xa : Option (Addr × Nat × Addr)} {q : Sq} {ρ : Env} {σ : St} {H : Hp} {ph : Option Addr} {w : Wd}
theorem up_kept (h : StS K cm xa q ρ ph w σ H) {a : Addr} {o : HO} (n : ¬ NN q ρ σ ph a) (s : ¬ Chg ρ σ H ph a) (e : H a = some o) {ρ2 : Env} {ph2 : Option Addr} {w2 : Wd} {σ2 : St} {H2 : Hp} (h2 : StS K cm xa { q with B := lift q.B H (Chg ρ σ H ph) } ρ2 ph2 w2 σ2 H2) : H2 a = some o ∧ ¬ NN { q with B := lift q.B H (Chg ρ σ H ph) } ρ2 σ2 ph2 a := by
  have eB : lift q.B H (Chg ρ σ H ph) a = some o := (lift_n s).trans e
  have n0 : q.ph0 ≠ some a := fun z => s (chg_ph0 h z)
  refine ⟨h2.base a o n0 eB, fun z => ?_⟩
  rcases z with (z | ⟨i, xs, z1, z2⟩) | z
  · exact n (.inl (.inl z))
  · have := h2.fresh i a xs z1 z2
    exact absurd (this.symm.trans eB) (by intro y; cases y)
  · rcases h2.phs with y | ⟨_, p, y1, y2⟩
    · exact n0 (y.symm.trans z)
    · rw [z] at y1; cases y1
      exact absurd (y2.symm.trans eB) (by intro y; cases y)
theorem not_chg (dis : Dis K H) (h : StS K cm xa q ρ ph w σ H) {a : Addr} {xs : List D} {vs : List V} (n : ¬ NN q ρ σ ph a) (e : H a = some (.lst vs)) (r : RepL K cm H (NN q ρ σ ph) ph xs vs) (u : ρ.all (unlS xs) = true) : ¬ Chg ρ σ H ph a := by
  rw [List.all_eq_true] at u
  rintro (s | ⟨i, ys, e1, e2⟩ | ⟨i, ds, p, us, e1, e2, e3, s⟩)
  · exact n (.inr s)
  · exact n (.inl (.inr ⟨i, ys, e1, e2⟩))
  · have c : (unlL xs ds && ds.all (unlI xs)) = true := u _ (List.mem_of_getElem? e1)
    rw [Bool.and_eq_true, List.all_eq_true] at c
    obtain ⟨v, e4, r2⟩ := h.env.nestd e1
    rw [e2] at e4; cases e4
    obtain ⟨p', vs', ez, ⟨_, hp⟩, rl⟩ := lst_of r2
    cases ez
    rw [e3] at hp; cases hp
    rcases s with rfl | ⟨j, ys, ej, ev⟩
    · rw [e] at e3; cases e3
      have := unlL_rep dis _ _ _ r rl
      rw [this] at c
      exact Bool.false_ne_true c.1
    · obtain ⟨v', e5, r'⟩ := rl.get ej
      rw [ev] at e5; cases e5
      obtain ⟨b, us2, eb, ⟨_, hb⟩, rb⟩ := lst_of r'
      cases eb
      rw [e] at hb; cases hb
      have := unlL_rep dis _ _ _ r rb
      have c2 : unlL xs ys = true := c.2 _ (List.mem_of_getElem? ej)
      rw [this] at c2
      exact Bool.false_ne_true c2
end
theorem pe_dis {X : Cx} {e : Expr} {tl : TE} (h : PE X e tl) : PE X e (fun σ H Q => tl σ H fun x H1 => Dis X.K H1 → Q x H1) :=
  ⟨fun pins s σ H Q I hw => L2.thn (h.run pins s σ H _ I hw) fun u s2 ⟨x, H2, I2, rx, hq⟩ => ⟨x, H2, I2, rx, hq fun a o e => k_free I2 e⟩⟩
section
variable {X : Cx} {c : Cfg} {q : Sq} {pos : Pos}
theorem forL_core {g : GF} {gt : TG} {is : List Nat} {b : SF} {J : It} {xs : List D} {C : Hp → NS → Option Addr → Prop} {ρ : Env} {σ : St} {H1 : Hp} {ph1 : Option Addr} {w1 : Wd} {D : Ends} {B' : Hp} (F : Feeds X.K c.cm J xs C) (hG : TGX X.K c.cm g gt is)
    (hC : ∀ ρ2 ph2 w2 σ2 H2, StS X.K c.cm c.xa { q with B := B' } ρ2 ph2 w2 σ2 H2 → C H2 (NN { q with B := B' } ρ2 σ2 ph2) ph2)
    (h1 : StS X.K c.cm c.xa { q with B := B' } ρ ph1 w1 σ H1) (hp1 : Post3 X.K c.cm c.xa { q with B := B' } c.Wx D (forL g b xs ρ w1)) :
    ∃ W : Nat → Nat → St → Hp → Prop, (∃ m, W 0 m σ H1) ∧ ∀ i m σ H, W i m σ H →
      (J.stop i H ∧ D.nx σ H) ∨ (J.go i H ∧ ∃ N : St → Hp → Prop, (∀ σ' H', N σ' H' → ∃ m', m' < m ∧ W (i + 1) m' σ' H') ∧ ∀ x H', J.yld i H x H' → gt x σ H' fun σ2 H2 => ∃ B', tY X.K c.cm c.xa { q with B := B' } c.Wx b { D with nx := N, ct := N, bk := D.nx } σ2 H2) := by
  obtain ⟨G, Y, hw, hCG, hY⟩ := F.walk
  refine L2.for_it (tb := fun D σ H => ∃ B', tY X.K c.cm c.xa { q with B := B' } c.Wx b D σ H) hw (fun i σ' H' => ∃ ρ' ph' w', StS X.K c.cm c.xa { q with B := B' } ρ' ph' w' σ' H' ∧ Post3 X.K c.cm c.xa { q with B := B' } c.Wx D (forL g b (xs.drop i) ρ' w')) ⟨ρ, ph1, w1, h1, hp1⟩ (fun i σ' H' _ ⟨ρ', ph', w', h', _⟩ => hCG _ _ _ (hC ρ' ph' w' σ' H' h')) ?_ ?_
  · rintro i x σ2 H2 H3 hi ⟨ρ2, ph2, w2, h2, hp2⟩ y
    have ex : xs[i]? = some xs[i] := List.getElem?_eq_getElem hi
    obtain ⟨kx, rx⟩ := hY i xs[i] H2 (NN { q with B := B' } ρ2 σ2 ph2) ph2 x H3 (hC _ _ _ _ _ h2) (fun p hpn => fresh_oo h2.env.tr h2.hand hpn) ex y
    have xt : Ext ph2 H2 H3 := fun b o _ e => kx b o e
    have hh3 : HandOk X.K c.cm H3 (OwnS q.O0 ρ2 σ2) ph2 w2 := h2.hand.keep (Ext.keep xt .refl) fun p _ o e => kx p o e
    have h3 := StS.ext (q := { q with B := B' }) xt .refl hh3 h2
    have ed : xs.drop i = xs[i] :: xs.drop (i + 1) := List.drop_eq_getElem_cons hi
    rw [ed] at hp2
    cases eg : g xs[i] ρ2 with
    | none => rw [forL_none eg] at hp2; exact (show False from hp2).elim
    | some ρ3 =>
      rw [forL_cons eg] at hp2
      obtain ⟨ts, rfl, ht, hq⟩ := hG rx eg
      obtain ⟨h4, k4⟩ := StS.puts ts (fun t m => (ht t m).2) h3
      refine hq σ2 _ ⟨B', _, ph2, w2, h4, ?_⟩
      revert hp2
      cases eb : b (putE ts ρ2) w2 with
      | nx ρ5 w5 => exact fun hp4 σ5 H5 ph5 h5 => ⟨ρ5, ph5, w5, h5, hp4⟩
      | ct ρ5 w5 => exact fun hp4 σ5 H5 ph5 h5 => ⟨ρ5, ph5, w5, h5, hp4⟩
      | bk ρ5 w5 => exact fun hp4 => hp4
      | rt d w5 => exact fun hp4 => hp4
      | ex c ns xs ρ5 w5 => exact fun hp4 => hp4
      | bad => exact fun hp4 => hp4
  · rintro σ2 H2 ⟨ρ2, ph2, w2, h2, hp2⟩
    rw [List.drop_length] at hp2
    exact hp2 σ2 H2 ph2 h2
theorem psy_forL {tg e : Expr} {fe : EF} {body : List Stmt} {g : GF} {gt : TG} {is : List Nat} {b : SF} (hp : PassesOwn (model X.prog X.w) X.A X.env X.xe) (hc : X.calm = true) (he : PX X c e fe) (hg : PG X tg gt) (hG : TGX X.K c.cm g gt is) (hb : ∀ q, PSSY X c q body b)
    (hs : ∀ x, foldedSetIterable e X.env x = pure x := by intro _; rfl) : PSY X c q (.For tg e body [] pos) (sForL fe g b) :=
  PS.to (L2.ps_for hp hc (pi_any (pe_dis he)) hg (tb := fun D σ H => ∃ B', tY X.K c.cm c.xa { q with B := B' } c.Wx b D σ H) ⟨fun pins s σ H D I ⟨B', h⟩ => (hb _).run pins s σ H D I h⟩ hs) fun D σ H ⟨ρ, ph, w, h, hpo⟩ => by
    have r0 := onE_run3 (rel := relZ X.K c.cm (OwnS q.O0 ρ σ)) h hpo
    refine ⟨_, ρ, ph, w, (Run.bind (rel := relV X.K c.cm (OwnS q.O0 ρ σ)) r0).imp fun v H1 ⟨d, ph1, w1, e1, s1, r1, h1⟩ dis => ?_⟩
    have fin : ∀ {J : It}, (∃ xs ph1 w1, relZ X.K c.cm (OwnS q.O0 ρ σ) H1 ph1 xs J ∧ StS X.K c.cm c.xa q ρ ph1 w1 σ H1 ∧ Post3 X.K c.cm c.xa q c.Wx D (if (noLstL xs && ρ.all (unlS xs)) = true then forL g b xs ρ w1 else .bad)) →
        ∃ W : Nat → Nat → St → Hp → Prop, (∃ m, W 0 m σ H1) ∧ ∀ i m σ H, W i m σ H →
          (J.stop i H ∧ D.nx σ H) ∨ (J.go i H ∧ ∃ N : St → Hp → Prop, (∀ σ' H', N σ' H' → ∃ m', m' < m ∧ W (i + 1) m' σ' H') ∧ ∀ x H', J.yld i H x H' → gt x σ H' fun σ2 H2 => ∃ B', tY X.K c.cm c.xa { q with B := B' } c.Wx b { D with nx := N, ct := N, bk := D.nx } σ2 H2) := by
      rintro J ⟨xs, ph2, w2, ⟨a, vs, rl, hJ⟩, hS, hP⟩
      by_cases cc : (noLstL xs && ρ.all (unlS xs)) = true
      · rw [if_pos cc] at hP
        rw [Bool.and_eq_true] at cc
        have le := lift_le hS
        have kk : ∀ ρ3 ph3 w3 σ3 H3, StS X.K c.cm c.xa { q with B := lift q.B H1 (Chg ρ σ H1 ph2) } ρ3 ph3 w3 σ3 H3 → RepL X.K c.cm H3 (NN { q with B := lift q.B H1 (Chg ρ σ H1 ph2) } ρ3 σ3 ph3) ph3 xs vs := fun ρ3 ph3 w3 σ3 H3 h3 =>
          repl_up (fun a o n e nl => up_kept hS n (fun s => by
            obtain ⟨us, z⟩ := chg_lst hS s
            rw [e] at z
            exact nl us (Option.some.inj z)) e h3) xs vs cc.1 rl
        rcases hJ with ⟨rfl, t⟩ | ⟨rfl, t⟩
        · exact forL_core (B' := lift q.B H1 (Chg ρ σ H1 ph2)) (feeds_list (a := a) (ds := xs) (vs := vs)) hG (fun ρ3 ph3 w3 σ3 H3 h3 => by
            refine ⟨?_, kk _ _ _ _ _ h3⟩
            rcases t with ⟨n, t | ⟨o, t⟩⟩ | t
            · obtain ⟨z1, z2⟩ := up_kept hS n (not_chg dis hS n t rl cc.2) t h3
              exact .inl ⟨z2, .inl z1⟩
            · obtain ⟨z1, z2⟩ := up_kept hS n (fun s => by
                obtain ⟨us, z⟩ := chg_lst hS s
                rw [t] at z; cases z) t h3
              exact .inl ⟨z2, .inr ⟨o, z1⟩⟩
            · exact .inr t) hS.up (hP.up le hS.o0)
        · exact forL_core (B' := lift q.B H1 (Chg ρ σ H1 ph2)) (feeds_tup (a := a) (ds := xs) (vs := vs)) hG (fun ρ3 ph3 w3 σ3 H3 h3 => by
            refine ⟨?_, kk _ _ _ _ _ h3⟩
            rcases t with ⟨n, t | ⟨o, t⟩⟩ | t
            · obtain ⟨z1, z2⟩ := up_kept hS n (fun s => by
                obtain ⟨us, z⟩ := chg_lst hS s
                rw [t] at z; cases z) t h3
              exact .inl ⟨z2, .inl z1⟩
            · obtain ⟨z1, z2⟩ := up_kept hS n (fun s => by
                obtain ⟨us, z⟩ := chg_lst hS s
                rw [t] at z; cases z) t h3
              exact .inl ⟨z2, .inr ⟨o, z1⟩⟩
            · exact .inr t) hS.up (hP.up le hS.o0)
      · rw [if_neg cc] at hP
        exact (show False from hP).elim
    cases d with
    | lst ds =>
      obtain ⟨a, vs, rfl, ⟨n, t⟩, rl⟩ := lst_of r1
      exact ⟨a, rfl, .inl ⟨vs, .inl (.inl t), fin (h1.ret (b := L2.Itl X.K a) ⟨a, vs, rl, .inl ⟨rfl, .inl ⟨n, .inl t⟩⟩⟩)⟩⟩
    | tup ds =>
      obtain ⟨a, vs, rfl, t, rl⟩ := tup_of r1
      exact ⟨a, rfl, .inr ⟨vs, t.seq, fin (h1.ret (b := L2.Itt X.K a) ⟨a, vs, rl, .inr ⟨rfl, t⟩⟩)⟩⟩
    | frz ds =>
      obtain ⟨a, vs, rfl, t, rl⟩ := frz_of r1
      exact ⟨a, rfl, .inl ⟨vs, t.seq, fin (h1.ret (b := L2.Itl X.K a) ⟨a, vs, rl, .inl ⟨rfl, t⟩⟩)⟩⟩
    | _ => exact h1.no
end
end FL

/-! F42: in and not in over a tuple of data of any depth. -/
namespace FL
open PySem
open L2 (It V Hp HO Cx Inv VK XK TE TT TA TS TI TG PE PT PA PS PSs PI PG Ends WX RelV Vals Rd upd upd_same upd_ne ne_of_none EP TP AP OpR R2 CallR FnOk Room Binds)
/-- x in xs, a tuple's things of any depth -/
def inT (x : D) : D → M D
  | .tup xs => if D.flat 60 x = true ∧ D.flatL 60 xs = true then M.ret (.bl (xs.any fun y => D.eqv y x)) else M.fail
  | _ => M.fail
def notInT (x : D) : D → M D
  | .tup xs => if D.flat 60 x = true ∧ D.flatL 60 xs = true then M.ret (.bl (!xs.any fun y => D.eqv y x)) else M.fail
  | _ => M.fail
section
variable {X : Cx} {K : PySem.W.Frag} {cm : Nat → Addr}
def rInT (K : PySem.W.Frag) (neg : Bool) : R2 := fun x y H Q => ∃ d ds, L2.Dp K H x d ∧ L2.Dp K H y (.tuple ds) ∧ SeqAt.shaped d = true ∧ SeqAt.shaped (.list ds) = true ∧ Q (.bl (if neg then !(ds.any fun z => PyData.eqv z d) else ds.any fun z => PyData.eqv z d)) H
theorem op_inT (hu : X.A.units + 65 < cLine) : OpR X (compareOp .In) (rInT X.K false) := by
  intro pins s σ H x y v u Q I rx ry h
  obtain ⟨d, ds, hd, he, sd, se, q⟩ := h
  obtain ⟨as, r1⟩ := L2.Dp.reads I d x v hd rx
  obtain ⟨bs, r2⟩ := L2.Dp.reads I (.tuple ds) y u he ry
  exact SeqAt.in_tuple_reads r2 r1 (SeqAt.canLay_of_shaped se) (SeqAt.canLay_of_shaped sd) (PyProof.Rows.room_in_shaped sd hu) ⟨.bl _, H, I, rfl, q⟩
theorem op_notInT (hu : X.A.units + 65 < cLine) : OpR X (compareOp .NotIn) (rInT X.K true) := by
  intro pins s σ H x y v u Q I rx ry h
  obtain ⟨d, ds, hd, he, sd, se, q⟩ := h
  obtain ⟨as, r1⟩ := L2.Dp.reads I d x v hd rx
  obtain ⟨bs, r2⟩ := L2.Dp.reads I (.tuple ds) y u he ry
  exact SeqAt.notIn_tuple_reads r2 r1 (SeqAt.canLay_of_shaped se) (SeqAt.canLay_of_shaped sd) (PyProof.Rows.room_in_shaped sd hu) ⟨.bl _, H, I, rfl, q⟩
theorem inT_ok : Op2 K cm inT (rInT K false) := by
  intro xa O Wx ρ σ ph H w Q d1 d2 v1 v2 r1 r2 h
  cases d2 with
  | tup ds =>
    by_cases hc : D.flat 60 d1 = true ∧ D.flatL 60 ds = true
    · simp only [inT, if_pos hc] at h
      obtain ⟨a, vs, rfl, t, rl⟩ := tup_of r2
      exact ⟨_, _, dp_of 60 _ _ hc.1 r1, .tup t.seq (dp_ofL 60 ds vs hc.2 rl), py_shaped hc.1, py_shapedL hc.2, by rw [if_neg Bool.false_ne_true]; exact h.ret (by show Rep K cm _ _ _ _ _; simp only [Rep]; rw [pyL_any hc.1 ds hc.2])⟩
    · simp only [inT, if_neg hc] at h; exact h.no
  | _ => exact h.no
theorem notInT_ok : Op2 K cm notInT (rInT K true) := by
  intro xa O Wx ρ σ ph H w Q d1 d2 v1 v2 r1 r2 h
  cases d2 with
  | tup ds =>
    by_cases hc : D.flat 60 d1 = true ∧ D.flatL 60 ds = true
    · simp only [notInT, if_pos hc] at h
      obtain ⟨a, vs, rfl, t, rl⟩ := tup_of r2
      exact ⟨_, _, dp_of 60 _ _ hc.1 r1, .tup t.seq (dp_ofL 60 ds vs hc.2 rl), py_shaped hc.1, py_shapedL hc.2, by rw [if_pos rfl]; exact h.ret (by show Rep K cm _ _ _ _ _; simp only [Rep]; rw [pyL_any hc.1 ds hc.2])⟩
    · simp only [notInT, if_neg hc] at h; exact h.no
  | _ => exact h.no
end
end FL

/-! F43: the head's run in parts, each of which is one run of the kernel. -/
namespace FL
open PySem
/-- a part of the checks, read off the tree -/
abbrev obP (n : Nat) (cks : List (PySem.W.Frag → Bool)) (fns : List DefH) (bls : List (Str × String)) (s : PySem.W.SharedT) : AlH := obsHG n cks fns bls (HandSHeadRun.getT s)
theorem obsHG_app {n : Nat} {c1 c2 : List (PySem.W.Frag → Bool)} {f1 f2 : List DefH} {b1 b2 : List (Str × String)} {g : Addr → Option Obj} (h1 : obsHG n c1 f1 b1 g = valH f1 b1) (h2 : obsHG n c2 f2 b2 g = valH f2 b2) : obsHG n (c1 ++ c2) (f1 ++ f2) (b1 ++ b2) g = valH (f1 ++ f2) (b1 ++ b2) := by
  unfold obsHG obsH valH at h1 h2 ⊢
  simp only [Prod.mk.injEq, Bool.and_eq_true] at h1 h2
  obtain ⟨⟨p1, q1⟩, m1, l1⟩ := h1
  obtain ⟨⟨p2, q2⟩, m2, l2⟩ := h2
  simp only [List.all_append, List.map_append, p1, p2, q1, q2, m1, m2, l1, l2, Bool.and_self]
theorem part_app {σ : Type} {X : Option σ} {π : σ → PySem.W.SharedT} {n : Nat} {c1 c2 : List (PySem.W.Frag → Bool)} {f1 f2 : List DefH} {b1 b2 : List (Str × String)} (h1 : X.map (fun s => obP n c1 f1 b1 (π s)) = some (valH f1 b1)) (h2 : X.map (fun s => obP n c2 f2 b2 (π s)) = some (valH f2 b2)) : X.map (fun s => obP n (c1 ++ c2) (f1 ++ f2) (b1 ++ b2) (π s)) = some (valH (f1 ++ f2) (b1 ++ b2)) := by
  cases X with
  | none => cases h1
  | some s => exact congrArg some (obsHG_app (Option.some.inj h1) (Option.some.inj h2))
theorem part_base {σ α β γ : Type} {X : Option σ} {A : σ → α} {B : σ → β} {O : σ → γ} {a : α} {b : β} {v : γ} (h0 : X.map (fun s => (A s, B s)) = some (a, b)) (h : X.map O = some v) : X.map (fun s => (A s, B s, O s)) = some (a, b, v) := by
  cases X with
  | none => cases h
  | some s =>
    have e := Option.some.inj h0
    have e1 : O s = v := Option.some.inj h
    have ea : A s = a := congrArg Prod.fst e
    have eb : B s = b := congrArg Prod.snd e
    show some (A s, B s, O s) = _
    rw [ea, eb, e1]
theorem part_3 {σ α β γ : Type} {X : Option σ} {A : σ → α} {B : σ → β} {O : σ → γ} {a : α} {b : β} {v : γ} (h1 : X.map A = some a) (h2 : X.map B = some b) (h : X.map O = some v) : X.map (fun s => (A s, B s, O s)) = some (a, b, v) := by
  cases X with
  | none => cases h
  | some s =>
    have ea : A s = a := Option.some.inj h1
    have eb : B s = b := Option.some.inj h2
    have e1 : O s = v := Option.some.inj h
    show some (A s, B s, O s) = _
    rw [ea, eb, e1]
end FL

/-! F44: within an except suite: lists and tuples walked, comprehensions, calls of own defs. -/
namespace FL
open PySem L2 HotX PyProof.Rows PySem.Spec
section
variable {prog : Program} {w : World} {A : Around} {s : Shared} {E : Value → Shared → Prop}
theorem ext_in {it a x1 : Addr} {i : Nat} {o1 : Obj} {h h1 : Heap} (e1 : Heap.ExtBut it h h1) (fresh : ∀ b o, h.get? b = some o → b ≠ a) {f : Obj → Obj} : Heap.ExtBut it h (h1.update a f) := fun b o hb e => by
  rw [Heap.get?_update_other _ _ (fun z => fresh b o e z.symm)]
  exact e1 b o hb e
/-- a list's walk ends while x1 is handled -/
theorem list_endH {it l x1 : Addr} {i : Nat} {items : Array Value} {Q : Option Value → Shared → Prop} (hot : HotAt A x1 s.heap) (apart : x1 ≠ it) (hit : s.heap.IsListIter it l i) (hl : s.heap.IsList l items) (out : items[i]? = none)
    (q : ∀ h', Heap.ExtBut it s.heap h' → Q none { s with heap := h' }) : wpAny (model prog w) A (pyNext (.ref it)) Q E s := by
  obtain ⟨hh, o1, v1, g1, d1, c1⟩ := hot
  obtain ⟨oi, gi, ci, di⟩ := id hit
  obtain ⟨ol, gl, _, nl, dl⟩ := hl
  unfold pyNext
  refine wpAny_bind (wpAny_attempt (wpAny_callSpecial?_slot (name := Str.ofString "__next__") hit.typeIs slot_listiter_next (wpAny_call_entry slot_listiter_next hit.typeIs entry_listiter_next ?_ (args_listiter_next _))))
  refine (show wpAny _ _ (field (.ref it) 0 >>= _) _ _ s from wpAny_bind (wpAny_field gi di (x := .ref l) rfl ?_))
  have nn : ¬ ((Value.ref l == Value.none) = true) := Bool.false_ne_true
  show wpAny _ _ (if (Value.ref l == .none) = true then _ else _) _ _ s
  rw [if_neg nn]
  refine (show wpAny _ _ (field (.ref it) 1 >>= _) _ _ s from wpAny_bind (wpAny_field gi di (x := .int i 0) rfl (show wpAny _ _ (seqItems? (.ref l) >>= _) _ _ s from wpAny_bind (wpAny_seqItems gl dl ?_))))
  simp only [Int.toNat_natCast, out]
  refine wpAny_bind (wpAny_rule (wpAny_bind (wpAny_setField gi di (by simp) ?_)))
  refine wpAny_bind ?_
  simp only [newExc, newTuple]
  refine wpAny_bind (wpAny_newObj_type (wpAny_bind (m := firstArgMember _ _) (wpAny_of_eq (a := Value.none) (by first | rfl | (simp only [firstArgMember]; rfl)) (wpAny_newObj_type ?_ (by size_fits)))) (by size_fits))
  have g2 : ∀ {f : Obj → Obj}, (s.heap.update it f).get? x1 = some o1 := fun {f} => by rw [Heap.get?_update_other _ _ (Ne.symm apart)]; exact g1
  refine raiseNew_hot ⟨hh, o1, v1, Heap.get?_push_of_some _ (Heap.get?_push_of_some _ g2), d1, c1⟩ (Nat.ne_of_lt (Heap.lt_size (Heap.get?_push_of_some _ g2))) (Heap.get?_push_size _ rfl) rfl (by first | (simp; done) | (simp; omega)) ?_
  refine wpAny_bind (wpAny_isInstance (T := "StopIteration") (b := true) ⟨_, Heap.get?_update_self _ (Heap.get?_push_size _ rfl) rfl, rfl⟩ isSubtype_stop (wpAny_pure (q _ fun b o hb e => ?_)))
  have e2 : ∀ {f : Obj → Obj}, (s.heap.update it f).get? b = some o := fun {f} => by rw [Heap.get?_update_other _ _ (Ne.symm hb)]; exact e
  rw [Heap.get?_update_other _ _ (Nat.ne_of_gt (Heap.lt_size (Heap.get?_push_of_some _ e2)))]
  exact Heap.get?_push_of_some _ (Heap.get?_push_of_some _ e2)
/-- a tuple's -/
theorem tup_endH {it l x1 : Addr} {i : Nat} {items : Array Value} {Q : Option Value → Shared → Prop} (hot : HotAt A x1 s.heap) (apart : x1 ≠ it) (hit : s.heap.IsTupleIter it l i) (hl : s.heap.IsTuple l items) (out : items[i]? = none)
    (q : ∀ h', Heap.ExtBut it s.heap h' → Q none { s with heap := h' }) : wpAny (model prog w) A (pyNext (.ref it)) Q E s := by
  obtain ⟨hh, o1, v1, g1, d1, c1⟩ := hot
  obtain ⟨oi, gi, ci, di⟩ := id hit
  obtain ⟨ol, gl, _, nl, dl⟩ := hl
  unfold pyNext
  refine wpAny_bind (wpAny_attempt (wpAny_callSpecial?_slot (name := Str.ofString "__next__") hit.typeIs PySem.F.slot_tuple_iterator_next (wpAny_call_entry PySem.F.slot_tuple_iterator_next hit.typeIs PySem.F.entry_tuple_iterator_next ?_ (PySem.F.args_tuple_iterator_next_1 _))))
  refine (show wpAny _ _ (field (.ref it) 0 >>= _) _ _ s from wpAny_bind (wpAny_field gi di (x := .ref l) rfl ?_))
  have nn : ¬ ((Value.ref l == Value.none) = true) := Bool.false_ne_true
  show wpAny _ _ (if (Value.ref l == .none) = true then _ else _) _ _ s
  rw [if_neg nn]
  refine (show wpAny _ _ (field (.ref it) 1 >>= _) _ _ s from wpAny_bind (wpAny_field gi di (x := .int i 0) rfl (show wpAny _ _ (seqItems? (.ref l) >>= _) _ _ s from wpAny_bind (wpAny_seqItems gl dl ?_))))
  simp only [Int.toNat_natCast, out]
  refine wpAny_bind (wpAny_rule (wpAny_bind (wpAny_setField gi di (by simp) ?_)))
  refine wpAny_bind ?_
  simp only [newExc, newTuple]
  refine wpAny_bind (wpAny_newObj_type (wpAny_bind (m := firstArgMember _ _) (wpAny_of_eq (a := Value.none) (by first | rfl | (simp only [firstArgMember]; rfl)) (wpAny_newObj_type ?_ (by size_fits)))) (by size_fits))
  have g2 : ∀ {f : Obj → Obj}, (s.heap.update it f).get? x1 = some o1 := fun {f} => by rw [Heap.get?_update_other _ _ (Ne.symm apart)]; exact g1
  refine raiseNew_hot ⟨hh, o1, v1, Heap.get?_push_of_some _ (Heap.get?_push_of_some _ g2), d1, c1⟩ (Nat.ne_of_lt (Heap.lt_size (Heap.get?_push_of_some _ g2))) (Heap.get?_push_size _ rfl) rfl (by first | (simp; done) | (simp; omega)) ?_
  refine wpAny_bind (wpAny_isInstance (T := "StopIteration") (b := true) ⟨_, Heap.get?_update_self _ (Heap.get?_push_size _ rfl) rfl, rfl⟩ isSubtype_stop (wpAny_pure (q _ fun b o hb e => ?_)))
  have e2 : ∀ {f : Obj → Obj}, (s.heap.update it f).get? b = some o := fun {f} => by rw [Heap.get?_update_other _ _ (Ne.symm hb)]; exact e
  rw [Heap.get?_update_other _ _ (Nat.ne_of_gt (Heap.lt_size (Heap.get?_push_of_some _ e2)))]
  exact Heap.get?_push_of_some _ (Heap.get?_push_of_some _ e2)
end
section
variable {P : Program} {w : World} {K : PySem.W.Frag} {tg : Expr}
theorem hot_at {X : Cx} {pins : List (Addr × Obj)} {z : L2.St} {g : Hp} {s : Shared} {b : Addr} (hc : L2H.HotC X) (I : Inv X pins z g s) (f : ∀ p ∈ X.pn ++ pins, p.1 ≠ b) : ∃ x1, HotAt X.A x1 s.heap ∧ x1 ≠ b := by
  obtain ⟨y, ⟨hh, vs, ed, ec⟩, hy⟩ := hc
  exact ⟨y.1, ⟨hh, y.2, vs, (I.pin y (List.mem_append_left _ hy)).1, ed, ec⟩, f y (List.mem_append_left _ hy)⟩
theorem turn_listH (a it : Addr) : L2H.TurnH P w K tg (Itl K a) [it] it (fun i h => h.IsListIter it a i) where
  mem := List.mem_singleton.mpr rfl
  obj := fun i h t b hb => by
    rw [List.mem_singleton.mp hb]
    obtain ⟨o, e, c, d⟩ := t
    exact ⟨o, e, fun v z => (by rw [d] at z; cases z)⟩
  keep := fun i h h' t k => t.at fun o e => k it (List.mem_singleton.mpr rfl) o e
  self := fun _ _ _ _ _ t h => wpAny_pyIter_listiter t h
  item := by
    intro X hP hw hK hc i pins s z g E I ff t go
    subst hP hw hK
    obtain ⟨xs, x, sq, ex⟩ := go
    obtain ⟨its, rv, at_, size⟩ := I.list sq
    obtain ⟨u, eu, ru⟩ := rv.get ex
    obtain ⟨f0, f1, f2, f3, f4, f5⟩ := ff it (List.mem_singleton.mpr rfl)
    refine wpAny_pyNext_list_item t at_.isList (x := u) (by simpa using eu) fun h' t' same => ⟨u, rfl, ?_⟩
    have J : Inv X pins z g { s with heap := h' } := I.turned (t' := s.toks) (fun b o hb e => (same.2 b hb).trans e) f0 f1 f3 f4 f5
    obtain ⟨o, e, c, d⟩ := id t'
    exact go_of (s := { s with heap := h' }) e c d (by decide) ⟨x, g, J, ru, ⟨rfl, fun ys hy => by rw [I.list_inj hy sq]; exact ex⟩, t', fun b hb => (ff b hb).1⟩
  done := by
    intro X hP hw hK hc i pins s z g E I ff t go
    subst hP hw hK
    obtain ⟨xs, sq, far⟩ := go
    obtain ⟨its, rv, at_, size⟩ := I.list sq
    obtain ⟨f0, f1, f2, f3, f4, f5⟩ := ff it (List.mem_singleton.mpr rfl)
    obtain ⟨x1, hot, ap⟩ := hot_at hc I f5
    have len := rv.length
    exact list_endH hot ap t at_.isList (by simp; omega) fun h' ext => ⟨rfl, I.turned (t' := s.toks) (fun b o hb e => ext b o hb e) f0 f1 f3 f4 f5⟩
theorem turn_tupH (a it : Addr) : L2H.TurnH P w K tg (Itt K a) [it] it (fun i h => h.IsTupleIter it a i) where
  mem := List.mem_singleton.mpr rfl
  obj := fun i h t b hb => by
    rw [List.mem_singleton.mp hb]
    obtain ⟨o, e, c, d⟩ := t
    exact ⟨o, e, fun v z => (by rw [d] at z; cases z)⟩
  keep := fun i h h' t k => t.at fun o e => k it (List.mem_singleton.mpr rfl) o e
  self := fun _ _ _ _ _ t h => wpAny_pyIter_tupleiter t h
  item := by
    intro X hP hw hK hc i pins s z g E I ff t go
    subst hP hw hK
    obtain ⟨xs, x, sq, ex⟩ := go
    obtain ⟨its, rv, at_, size⟩ := I.tuple sq
    obtain ⟨u, eu, ru⟩ := rv.get ex
    obtain ⟨f0, f1, f2, f3, f4, f5⟩ := ff it (List.mem_singleton.mpr rfl)
    refine wpAny_pyNext_tuple_item t (show s.heap.IsTuple a its.toArray from at_) (x := u) (by simpa using eu) fun h' t' same => ⟨u, rfl, ?_⟩
    have J : Inv X pins z g { s with heap := h' } := I.turned (t' := s.toks) (fun b o hb e => (same.2 b hb).trans e) f0 f1 f3 f4 f5
    obtain ⟨o, e, c, d⟩ := id t'
    exact go_of (s := { s with heap := h' }) e c d (by decide) ⟨x, g, J, ru, ⟨rfl, fun ys hy => by rw [I.tuple_inj hy sq]; exact ex⟩, t', fun b hb => (ff b hb).1⟩
  done := by
    intro X hP hw hK hc i pins s z g E I ff t go
    subst hP hw hK
    obtain ⟨xs, sq, far⟩ := go
    obtain ⟨its, rv, at_, size⟩ := I.tuple sq
    obtain ⟨f0, f1, f2, f3, f4, f5⟩ := ff it (List.mem_singleton.mpr rfl)
    obtain ⟨x1, hot, ap⟩ := hot_at hc I f5
    have len := rv.length
    exact tup_endH hot ap t (show s.heap.IsTuple a its.toArray from at_) (by simp; omega) fun h' ext => ⟨rfl, I.turned (t' := s.toks) (fun b o hb e => ext b o hb e) f0 f1 f3 f4 f5⟩
end
section
variable {X : Cx} {tg : Expr}
theorem pi_anyH {l : Expr} {tl : TE} (hl : PE X l tl) : L2H.PIH X tg l (fun σ H R => tl σ H fun x H1 => ∃ a, x = .ref a ∧ ((∃ xs, L2.SqL X.K H1 a xs ∧ R (L2.Itl X.K a) H1) ∨ (∃ xs, L2.SqT X.K H1 a xs ∧ R (L2.Itt X.K a) H1))) := by
  refine ⟨fun pins s z g R I h => L2.thn (hl.run pins s z g _ I h) fun u s2 ⟨x, g2, J, rx, a, ex, hq⟩ => ?_⟩
  subst ex
  cases rx
  have fr : L2.FpOk X pins g2 s2.heap.objs.size := J.fpOk (Nat.le_refl _) (J.hok.fresh (Nat.le_refl _))
  have ff : ∀ b ∈ [s2.heap.objs.size], L2.FpOk X pins g2 b := fun b hb => by rw [List.mem_singleton.mp hb]; exact fr
  rcases hq with ⟨xs, hx, hR⟩ | ⟨xs, hx, hR⟩
  · obtain ⟨its, rv, at_, size⟩ := J.list hx
    exact wpAny_pyIter_list at_.isList ⟨_, _, _, _, g2, rfl, J.kept (t' := s2.toks) fun b o q => Heap.get?_push_of_some _ q, turn_listH a _, ⟨_, Heap.get?_push_size _ rfl, rfl, rfl⟩, ff, hR⟩
  · obtain ⟨its, rv, at_, size⟩ := J.tuple hx
    exact wpAny_pyIter_tuple (show s2.heap.IsTuple a its.toArray from at_) ⟨_, _, _, _, g2, rfl, J.kept (t' := s2.toks) fun b o q => Heap.get?_push_of_some _ q, turn_tupH a _, ⟨_, Heap.get?_push_size _ rfl, rfl, rfl⟩, ff, hR⟩
/-- the block of a comprehension there -/
abbrev blkH (X : Cx) (s : Shared) (H : Hp) (scope : Scope) (ce : PySem.Env) (fp : List Addr) (p : Addr × Obj) : Cx := (X.blk s H scope ce fp).tr [p] (fun _ _ => False)

theorem pin_blk {pins : List (Addr × Obj)} {z : L2.St} {g : Hp} {s : Shared} {scope : Scope} {own : List (Str × Nat)} {fp : List Addr} {p : Addr × Obj} (I : Inv X pins z g s) (hp : p ∈ X.pn) (ok : BlkOk X.N X.env.scope scope own) (nd : X.N.Nodup) (ff : ∀ b ∈ fp, FpOk X pins g b ∧ b < s.heap.objs.size) :
    Inv (blkH X s g scope (compEnvC scope (cellsFrom (s.heap.objs.size + 1) scope.names (cloFrom X.env.cells scope.names [])) s.heap.objs.size X.env) fp p) [] (wipe z (own.map (·.2))) g { s with heap := pushCells (s.heap.push { cls := .type "dict", data := .dict #[] }) scope.names } := by
  have B := block_start I ok nd ff
  obtain ⟨q1, q2, q3, q4, q5⟩ := I.pin p (List.mem_append_left _ hp)
  have B2 := B.pins_of (pins' := [p]) fun y hy => by
    rw [List.mem_singleton.mp hy]
    exact ⟨pushCells_keeps _ _ _ _ (Heap.get?_push_of_some _ q1), q2, Nat.ne_of_lt (Heap.lt_size q1), fun hm => (List.mem_cons.mp (I.stkSub p.1 hm)).elim q3 q4, q5⟩
  exact B2.toTry _
theorem pe_lcH {elt iter : Expr} {ifs : List Expr} {scope : Scope} {own : List (Str × Nat)} {pos : Pos} {wi : TI} {g : TG} {tt : TT} {te : TE} (hc : L2H.HotC X) (nd : X.N.Nodup) (hi : L2H.PIH X tg iter wi) (ok : BlkOk X.N X.env.scope scope own)
    (hg : ∀ (s : Shared) (H : Hp) (C : Addr) (cl : List (Str × Addr)) (fp : List Addr) (p : Addr × Obj), PG (blkH X s H scope (compEnvC scope cl C X.env) fp p) tg g)
    (ht : ∀ (s : Shared) (H : Hp) (C : Addr) (cl : List (Str × Addr)) (fp : List Addr) (p : Addr × Obj), L2H.Hot1 X.A p → PTs (blkH X s H scope (compEnvC scope cl C X.env) fp p) ifs tt)
    (he : ∀ (s : Shared) (H : Hp) (C : Addr) (cl : List (Str × Addr)) (fp : List Addr) (p : Addr × Obj), L2H.Hot1 X.A p → PE (blkH X s H scope (compEnvC scope cl C X.env) fp p) elt te) (hs : ∀ x, foldedSetIterable iter X.env x = pure x := by intro _; rfl) :
    PE X (.ListComp elt [⟨tg, iter, ifs, 0⟩] scope pos) (tLc wi g tt te (own.map fun y => y.2)) := by
  obtain ⟨p, hot, hp⟩ := id hc
  refine ⟨fun pins s z H0 Q I want => ?_⟩
  rw [eval_ListComp]
  have free : ∀ y ∈ scope.names, y.2 = .free → ∃ c, X.env.cells.lookup y.1 = some c := fun y hy e => (ok.free y hy e).elim (fun k => I.ok.has _ (.inl k)) fun k => I.ok.has _ (.inr k)
  refine wpAny_comprehension_free (use := none) rfl hs (closure_ok free) ok.kind (fun y hy e => by rw [ok.uniq y hy, e]) (L2.thn (hi.run pins s z H0 _ I want) fun xv s1 hx => L2.thn hx fun itv s2 come => ?_)
  obtain ⟨it, fp, tn, J, H2, rfl, I2, T, t2, f2, q⟩ := come
  refine wpAny_newObj_type (newEnv_comp ?_) (show 0 ≤ sizeLine by decide)
  obtain ⟨D, eD⟩ : ∃ D, s2.heap.objs.size = D := ⟨_, rfl⟩
  rw [eD]
  have nD : H2 D = none := I2.hok.fresh (Nat.le_of_eq eD)
  obtain ⟨W, ⟨m0, w0⟩, turn⟩ := q D nD
  obtain ⟨s3, e3⟩ : ∃ s3 : Shared, { s2 with heap := s2.heap.push { cls := .type "list", data := .seq ([] : List Value).toArray } } = s3 := ⟨_, rfl⟩
  have p3 : s3.heap = s2.heap.push { cls := .type "list", data := .seq ([] : List Value).toArray } := by rw [← e3]
  have I3 : Inv X pins z (upd H2 D (.lst [])) s3 := by
    rw [← e3]
    exact I2.laid (t' := s2.toks) (fun b o e => Heap.get?_push_of_some _ e) (Nat.le_of_eq eD) ⟨Nat.zero_le _, [], 0, .nil, by rw [← eD]; exact Heap.get?_push_size _ rfl⟩
  have f3 : ∀ b ∈ fp, FpOk X pins (upd H2 D (.lst [])) b ∧ b < s3.heap.objs.size := by
    intro b hb
    obtain ⟨o, e, _⟩ := T.obj _ _ t2 b hb
    have lt : b < s2.heap.objs.size := Heap.lt_size e
    refine ⟨⟨?_, (f2 b hb).2⟩, by rw [p3, Heap.size_push]; exact Nat.lt_succ_of_lt lt⟩
    rw [upd_ne (by rw [← eD]; exact Nat.ne_of_lt lt)]
    exact (f2 b hb).1
  have t3 : tn 0 s3.heap := T.keep _ _ _ t2 fun b _ o e => by rw [p3]; exact Heap.get?_push_of_some _ e
  have I4 := pin_blk I3 hp ok nd f3
  have run_g := hg s3 (upd H2 D (.lst [])) s3.heap.objs.size (cellsFrom (s3.heap.objs.size + 1) scope.names (cloFrom X.env.cells scope.names [])) fp p
  have run_t := ht s3 (upd H2 D (.lst [])) s3.heap.objs.size (cellsFrom (s3.heap.objs.size + 1) scope.names (cloFrom X.env.cells scope.names [])) fp p hot
  have run_e := he s3 (upd H2 D (.lst [])) s3.heap.objs.size (cellsFrom (s3.heap.objs.size + 1) scope.names (cloFrom X.env.cells scope.names [])) fp p hot
  have none3 : ∀ b ∈ fp, (upd H2 D (.lst [])) b = none := fun b hb => (f3 b hb).1.1
  rw [e3]
  show codeAny _ _ (.compStart _ 0 (.ref it) (.ref D) (compEnvC scope (cellsFrom (s3.heap.objs.size + 1) scope.names (cloFrom X.env.cells scope.names [])) s3.heap.objs.size X.env)) (compPost (model X.prog X.w) X.A X.xe none _ (.ref D) s3.heap.objs.size) { s3 with heap := pushCells (s3.heap.push { cls := .type "dict", data := .dict #[] }) scope.names }
  obtain ⟨ce, ece⟩ : ∃ ce, compEnvC scope (cellsFrom (s3.heap.objs.size + 1) scope.names (cloFrom X.env.cells scope.names [])) s3.heap.objs.size X.env = ce := ⟨_, rfl⟩
  have eL : ce.locals = s3.heap.objs.size := by subst ece; rfl
  rw [ece] at I4 run_g run_t run_e ⊢
  obtain ⟨H3, eH3⟩ : ∃ H3, upd H2 D (.lst []) = H3 := ⟨_, rfl⟩
  rw [eH3] at I3 I4 run_g run_t run_e w0 none3 f3
  obtain ⟨s4, e4⟩ : ∃ s4 : Shared, { s3 with heap := pushCells (s3.heap.push { cls := .type "dict", data := .dict #[] }) scope.names } = s4 := ⟨_, rfl⟩
  have t4 : tn 0 s4.heap := T.keep _ _ _ t3 fun b _ o e => by rw [← e4]; exact pushCells_keeps _ _ _ _ (Heap.get?_push_of_some _ e)
  rw [e4] at I4 ⊢
  have hcB : L2H.HotC (blkH X s3 H3 scope ce fp p) := ⟨p, hot, List.mem_singleton.mpr rfl⟩
  have still : ∀ {z' : L2.St} {H' : Hp} {s' : Shared}, Inv (blkH X s3 H3 scope ce fp p) [] z' H' s' → (∀ b ∈ fp, H' b = none) → ∀ b ∈ fp, FpOk (blkH X s3 H3 scope ce fp p) [] H' b := fun {z' H' s'} I' hn b hb =>
    ⟨hn b hb, (I'.ok.exf b hb).1, I'.ok.exfs b hb, .inl hb, fun x c e => (I'.ok.exf b hb).2 x c e, fun y hy => by
      have ey : y = p := by simpa using (show y ∈ [p] ++ ([] : List (Addr × Obj)) from hy)
      rw [ey]
      exact (f3 b hb).1.2.2.2.2.2 p (List.mem_append_left _ hp)⟩
  have body : codeAny (model X.prog X.w) X.A (.compLoop (.ListComp elt [⟨tg, iter, ifs, 0⟩] scope pos) 0 (.ref it) (.ref D) ce) (compPost (model X.prog X.w) X.A X.xe none (EP X pins z Q) (.ref D) s3.heap.objs.size) s4 := by
    refine compLoop_any (fun n s' => ∃ i H', Inv (blkH X s3 H3 scope ce fp p) [] (wipe z (own.map (·.2))) H' s' ∧ tn i s'.heap ∧ (∀ b ∈ fp, H' b = none) ∧ W i n H') (fun n s5 ⟨i, H5, I5, t5, n5, w5⟩ => ?_) m0 ⟨0, H3, I4, t4, none3, w0⟩
    rcases turn i n H5 w5 with ⟨stop, qq⟩ | ⟨go, Nx, down, step⟩
    · refine thnF (T.done (blkH X s3 H3 scope ce fp p) rfl rfl rfl hcB i [] s5 _ H5 (fun _ _ => False) I5 (still I5 n5) t5 stop) fun r s6 ⟨hr, I6⟩ => ?_
      subst hr
      have I7 : Inv X pins z H5 s6 := I3.call' (ch := fp) I6.os I6.base I6.hok I6.bare fun b hb => ⟨(f3 b hb).1.2.2.2.1, (f3 b hb).1.2.1, (f3 b hb).1.2.2.2.2.1, (f3 b hb).1.2.2.2.2.2⟩
      have nC : H5 s3.heap.objs.size = none := by rw [← eL]; exact I6.free
      obtain ⟨m, nsm, _⟩ := I6.loc
      have nsm : s6.heap.Ns ce.locals m := nsm
      rw [eL] at nsm
      obtain ⟨a0, a1, a2, a3, a4, a5⟩ := I3.fpOk (H' := H5) (Nat.le_refl _) nC
      exact ⟨m, nsm, fun h'' same => ⟨.ref D, H5, I7.turned (t' := s6.toks) (fun b o hb e => (same.2 b hb).trans e) a0 a1 a3 a4 a5, rfl, qq⟩⟩
    · refine thnF (T.item (blkH X s3 H3 scope ce fp p) rfl rfl rfl hcB i [] s5 _ H5 (fun _ _ => False) I5 (still I5 n5) t5 go) fun r s6 ⟨u, hr, next⟩ => ?_
      subst hr
      refine thnF next fun _ s7 ⟨x, H7, I7, r7, y7, t7, n7⟩ => ?_
      have I7' := I7.pinned (still I7 n7) (T.obj _ _ t7)
      refine thnF (run_g.run _ s7 _ H7 x u _ I7' r7 (step x H7 y7)) fun _ s8 ⟨z8, H8, I8, wz, q8⟩ => thnF (run_t.run _ s8 z8 H8 _ I8 q8) fun b s9 ⟨H9, I9, q9⟩ => ?_
      have last : ∀ {s' : Shared} {H' : Hp}, Inv (blkH X s3 H3 scope ce fp p) ([] ++ pinsAt fp s7.heap) z8 H' s' → Nx H' → ∃ m, m < n ∧ ∃ i H', Inv (blkH X s3 H3 scope ce fp p) [] (wipe z (own.map (·.2))) H' s' ∧ tn i s'.heap ∧ (∀ b ∈ fp, H' b = none) ∧ W i m H' := fun {s' H'} I' nx => by
        obtain ⟨m', lt, w'⟩ := down H' nx
        have at' : ∀ b ∈ fp, ∀ o, s7.heap.get? b = some o → s'.heap.get? b = some o ∧ H' b = none := fun b hb o e =>
          have y := I'.pin (b, o) (List.mem_append_right _ (List.mem_append_right _ (mem_pinsAt hb e)))
          ⟨y.1, y.2.1⟩
        have same : (wipe z (own.map (·.2))).length = z8.length := by rw [← wz, wipe_length]
        refine ⟨m', lt, i + 1, H', (I'.unpinned (pins := [])).weak same (fun j v e => ?_), T.keep _ _ _ t7 fun b hb o e => (at' b hb o e).1, fun b hb => ?_, w'⟩
        · rw [← wz] at e
          exact (wipe_some e).1
        · obtain ⟨o, e, _⟩ := T.obj _ _ t7 b hb
          exact (at' b hb o e).2
      match b, q9 with
      | false, q9 =>
        simp only [if_false, Bool.false_eq_true] at q9 ⊢
        exact last I9 q9
      | true, q9 =>
        simp only [if_true] at q9 ⊢
        exact thnF (run_e.run _ s9 z8 H9 _ I9 q9) fun y s10 ⟨yv, H10, I10, r10, acc, aD, aS, nx⟩ => app_ok (X := blkH X s3 H3 scope ce fp p) I10 aD aS r10 fun s11 I11 => last I11 nx
  exact codeAny_compStart_list body (T.self X.A 0 _ _ _ t4 body)
end
end FL

/-! F45: own defs called within an except suite, by their mirrors. -/
namespace FL
open PySem
open L2 (V Hp HO Cx Inv VK XK TE TT TA TS TI TG PE PT PA PS PSs PI PG Ends WX RelV Vals Rd upd upd_same upd_ne ne_of_none EP TP AP OpR R2 CallR FnOk Room Binds)
section
variable {X : Cx}
theorem takes0N : L2N.Takes X (fun _ _ _ _ => False) := fun u s' x => by
  obtain ⟨_, _, _, _, _, _, _, _, _, _, _, _, _, _, _, _, no⟩ := x
  exact no.elim
theorem hot_suite {a : Addr} {ob : Obj} {k : Value} {d : Option Addr} {pn : List (Addr × Obj)} (z : L2N.Zn k d ob) (f : ∃ vs, ob.data = .fields vs) : L2H.HotC (X.suite a ((a, ob) :: pn)) := by
  obtain ⟨vs, e⟩ := f
  exact ⟨(a, ob), ⟨rfl, vs, e, z.2.2 vs e⟩, List.mem_cons_self ..⟩
theorem room_suite {k : Nat} {A : Around} (r : Room k A) {h : Option Value} : L2H.RoomH k (A.mark h) := ⟨r.dp, r.un⟩
end
section
variable {P : Program} {w : World} {K : PySem.W.Frag} {mg : Str → Option Value} {base : Heap} {cm : Nat → Addr}
/-- what a def does there -/
structure HasH (P : Program) (w : World) (K : PySem.W.Frag) (mg : Str → Option Value) (base : Heap) (cm : Nat → Addr) (x : Str) (lvl : Nat) (ps : List Str) (n : Nat) (F : List D → M D) : Prop where
  ex : ∃ f fd, mg x = some (.ref f) ∧ PySem.W.keepIn K (.ref f) = true ∧ L2H.FnH P w K mg base (L2N.CX P w) lvl f fd ps (spX K cm n F) ∧ Binds K fd ps []
theorem fn_okH {x qual : Str} {params : Arguments} {body : List Stmt} {scope : Scope} {dvs : List V} {kws : List (Str × V)} {f : Addr} {fd : FuncData} {N ps : List Str} {k : Nat} {b : SF} (F : L2.FunD K x qual params body scope dvs kws f fd) (S : L2.FnScope N ps scope)
    (hn : ps.length ≤ N.length)
    (hb : ∀ (cdv : Value) (A : Around) (outer : List PySem.Env) (s : Shared) (H : Hp) (E : XK) (q : Sq) (p : Addr × Obj), L2H.Hot1 A p → L2H.RoomH k (A.deeper (PyProof.Rows.envOfC qual scope s.heap.objs.size f cdv)) →
      PSSX (L2H.cxH (L2N.CX P w) P w K mg base N qual scope f cdv A outer s H E p) ⟨cm, none, fun cls d _ H' => E cls d H'⟩ q body b) :
    L2H.FnH P w K mg base (L2N.CX P w) (k + 1) f fd ps (spX K cm ps.length (callF N.length b)) := by
  obtain ⟨x1, x2, x3, x4, x5, x6, x7, cdv, x9, y1, rfl, lk, hcd, _, _⟩ := F.ex
  refine L2H.fn_ofH lk hcd S (fun vs H Q E h => h.1) fun A outer s H vs Q E p hot hr h => ?_
  obtain ⟨hl, O, ds, ph, wd, tr, hand, r, post⟩ := h
  refine ⟨_, hb cdv A outer s H E ⟨H, O, ph⟩ p hot hr, vals ds ++ List.replicate (N.length - ds.length) Slot.none, ph, wd, start_sts (by rw [r.length, hl]; exact hn) tr hand r, ?_⟩
  unfold callF at post
  cases e : b (vals ds ++ List.replicate (N.length - ds.length) Slot.none) wd with
  | nx ρ' w' =>
    rw [e] at post
    intro σ' H' ph' s1 k1
    exact post .non H' ph' s1.base s1.phs (s1.hand.less fun _ z => .inl z) (by simp [Rep])
  | rt d w' =>
    rw [e] at post
    intro v H' ph' x1 s1 hk rv
    exact post v H' ph' x1 s1 hk rv
  | ex c ns xs ρ' w' =>
    rw [e] at post
    intro σ' H' ph' dd vs s1 k1 hd l rv
    exact post dd H' ph' vs s1.base s1.phs (s1.hand.less fun _ z => .inl z) hd l (rv.keep (Keep.less (OO.mono fun _ z => .inl z)) (fun _ e => e) xs vs)
  | bk ρ' w' => rw [e] at post; exact (show False from post).elim
  | ct ρ' w' => rw [e] at post; exact (show False from post).elim
  | bad => rw [e] at post; exact (show False from post).elim
theorem has_ofH {x : Str} {st : Stmt} {N ps : List Str} {k m n : Nat} {b : SF} (hd : ∃ f fd, DefAt K mg x st [] f fd) (S : L2.FnScope N ps (L2.defScope st)) (hps : ps.length = m) (hN : N.length = n) (hmn : m ≤ n)
    (hb : ∀ (kV doc pm : Value) (an : Option Addr) (cdv ct : Value) (us : List Value), us.length = ps.length → bindArgs (PySem.W.fnOf x x (L2.defArgs st) (L2.defBody st) (L2.defScope st) .none kV doc pm an cdv ct) ⟨us, []⟩ = pure (ps.zip us))
    (body : ∀ (f : Addr) (cdv : Value) (A : Around) (outer : List PySem.Env) (s : Shared) (H : Hp) (E : XK) (q : Sq) (p : Addr × Obj), L2H.Hot1 A p → L2H.RoomH k (A.deeper (PyProof.Rows.envOfC x (L2.defScope st) s.heap.objs.size f cdv)) →
      PSSX (L2H.cxH (L2N.CX P w) P w K mg base N x (L2.defScope st) f cdv A outer s H E p) ⟨cm, none, fun cls d _ H' => E cls d H'⟩ q (L2.defBody st) b) :
    HasH P w K mg base cm x (k + 1) ps m (callF n b) := by
  obtain ⟨f, fd, hm, F⟩ := hd
  subst hps hN
  exact ⟨⟨f, fd, hm, F.kp, fn_okH F S hmn fun cdv A outer s H E q p hot hr => body f cdv A outer s H E q p hot hr, F.bindsN hb⟩⟩
theorem has_noH {x : Str} {st : Stmt} {ps : List Str} {k m : Nat} (hd : ∃ f fd, DefAt K mg x st [] f fd) (hps : ps.length = m)
    (hb : ∀ (kV doc pm : Value) (an : Option Addr) (cdv ct : Value) (us : List Value), us.length = ps.length → bindArgs (PySem.W.fnOf x x (L2.defArgs st) (L2.defBody st) (L2.defScope st) .none kV doc pm an cdv ct) ⟨us, []⟩ = pure (ps.zip us)) :
    HasH P w K mg base cm x k ps m fun _ => M.fail := by
  obtain ⟨f, fd, hm, F⟩ := hd
  subst hps
  exact ⟨⟨f, fd, hm, F.kp, ⟨fun _ _ _ _ h => h.1, fun A outer s H args us vs Q E p _ _ _ _ _ _ ⟨_, _, _, _, _, _, _, _, h⟩ => (show False from h).elim⟩, F.bindsN hb⟩⟩
end
section
variable {X : Cx} {c : Cfg} {pos : Pos} {e : Expr} {es : List Expr} {fs : List EF}
theorem px_hasH {x : Str} {p : Pos} {k : Nat} {ps : List Str} {n : Nat} {F : List D → M D} (G : HasH X.prog X.w X.K X.mg X.base c.cm x k ps n F) (hr : L2H.RoomH k X.A) (hc : L2H.HotC X) (hx : L2N.Takes X c.Wx) (hg : L2.Gl X x) (ha : PAX X c (e :: es) fs)
    (hn : fs.length = n := by rfl) (hdb : (x == ("__debug__" : Str)) = false := by decide) (he : starEach (e :: es) X.env = (false, eval e X.env) :: starEach es X.env := by rfl) (hpl : (backTo pos (starEach es X.env)).any (·.1) = false := by rfl) :
    PX X c (.Call (.Name x p) (e :: es) [] pos) (eCall F fs) := by
  obtain ⟨f, fd, hm, hk, hF, hB⟩ := G.ex
  refine ⟨fun pins s z g Q I h => ?_⟩
  obtain ⟨O, ρ, ph, w, h⟩ := h
  have h1 := evs_run h
  refine wpAny_Call_Name_kw (L2.ld_glob I hg hm ?_ hdb)
  refine PySem.W.callWith_K (h₀ := X.base) I.ok.mod.kin hk (L2.thn (ha.run pos pins s z g _ I ⟨O, ρ, ph, w, h1⟩) fun us s1 ⟨vs, H1, I1, r, ds', ph1, w1, l, rl, h2⟩ => ⟨I1.kIn, ?_⟩) he hpl
  exact L2H.run_fnH (E := fun z => fun cls d H' => c.Wx cls d z H') hF hr hc hB (L2N.passAt hx z) I1 r ⟨by rw [l]; exact hn, O, ds', ph1, w1, h2.env.tr, h2.hand, rl, post_ws h2.post⟩
abbrev PIXH (X : Cx) (c : Cfg) (tg iter : Expr) (f : IF) : Prop := L2H.PIH X tg iter (fun σ H R => ∃ O ρ ph w, Run X.K c.cm c.xa O (relI X.K c.cm O) c.Wx ρ σ ph H w (f ρ) R)
theorem pix_anyH {tg e : Expr} {fe : EF} (he : PX X c e fe) : PIXH X c tg e (iSeq fe) := by
  have h0 := pi_anyH (tg := tg) he
  refine ⟨fun pins s σ H R I q => h0.run pins s σ H R I ?_⟩
  obtain ⟨O, ρ, ph, w, h⟩ := q
  exact ⟨O, ρ, ph, w, (Run.bind (rel := relV X.K c.cm O) h).imp fun v H1 ⟨d, ph1, w1, e1, s1, r1, h1⟩ => by
    cases d with
    | lst ds =>
      obtain ⟨a, vs, rfl, ⟨n, t⟩, rl⟩ := lst_of r1
      exact ⟨a, rfl, .inl ⟨vs, .inl (.inl t), h1.ret (b := L2.Itl X.K a) ⟨_, ⟨.inl ⟨n, .inl t⟩, rl⟩, feeds_list⟩⟩⟩
    | frz ds =>
      obtain ⟨a, vs, rfl, t, rl⟩ := frz_of r1
      exact ⟨a, rfl, .inl ⟨vs, t.seq, h1.ret (b := L2.Itl X.K a) ⟨_, ⟨t, rl⟩, feeds_list⟩⟩⟩
    | tup ds =>
      obtain ⟨a, vs, rfl, t, rl⟩ := tup_of r1
      exact ⟨a, rfl, .inr ⟨vs, t.seq, h1.ret (b := L2.Itt X.K a) ⟨_, ⟨t, rl⟩, feeds_tup⟩⟩⟩
    | _ => exact h1.no⟩
theorem pnx_lcH {elt tg iter : Expr} {ifs : List Expr} {scope : Scope} {own : List (Str × Nat)} {f : IF} {g : GF} {gt : TG} {is : List Nat} {t : TF} {fe : EF} (hc : L2H.HotC X) (hN : X.N.Nodup) (hi : PIXH X c tg iter f) (ok : L2.BlkOk X.N X.env.scope scope own) (his : own.map (·.2) = is)
    (hg : ∀ (s : Shared) (H : Hp) (C : Addr) (cl : List (Str × Addr)) (fp : List Addr) (p : Addr × Obj), PG (blkH X s H scope (compEnvC scope cl C X.env) fp p) tg gt) (hG : TGX X.K c.cm g gt is)
    (ht : ∀ (s : Shared) (H : Hp) (C : Addr) (cl : List (Str × Addr)) (fp : List Addr) (p : Addr × Obj), L2H.Hot1 X.A p → PTSX (blkH X s H scope (compEnvC scope cl C X.env) fp p) ⟨c.cm, c.xa, noW⟩ ifs t)
    (he : ∀ (s : Shared) (H : Hp) (C : Addr) (cl : List (Str × Addr)) (fp : List Addr) (p : Addr × Obj), L2H.Hot1 X.A p → PX (blkH X s H scope (compEnvC scope cl C X.env) fp p) ⟨c.cm, c.xa, noW⟩ elt fe) (hs : ∀ x, foldedSetIterable iter X.env x = pure x := by intro _; rfl) :
    PNX X c (.ListComp elt [⟨tg, iter, ifs, 0⟩] scope pos) (nLc f is g t fe) :=
  PE.to (pe_lcH hc hN hi ok hg ht he hs) (lc_read his hG)
end
end FL

/-! F46: a list times a whole number. -/
namespace FL
open PySem
open L2 (It V Hp HO Cx Inv VK XK TE TT TA TS TI TG PE PT PA PS PSs PI PG Ends WX RelV Vals Rd upd upd_same upd_ne ne_of_none EP TP AP OpR R2 CallR FnOk Room Binds)
def repD : D → D → M D
  | .lst xs, .int k => if 0 ≤ k ∧ k < 1000 ∧ xs.length * k.toNat ≤ line then M.ret (.lst (List.replicate k.toNat xs).flatten) else M.fail
  | _, _ => M.fail
section
variable {K : PySem.W.Frag} {cm : Nat → Addr}
theorem repl_rep {H : Hp} {N : NS} {ph : Option Addr} {ds : List D} {vs : List V} (r : RepL K cm H N ph ds vs) : ∀ n : Nat, RepL K cm H N ph (List.replicate n ds).flatten (List.replicate n vs).flatten
  | 0 => RepL.nil
  | n + 1 => by
    simp only [List.replicate_succ, List.flatten_cons]
    exact r.append (repl_rep r n)
theorem rep_ok : Op2 K cm repD L2.rRep := by
  intro xa O Wx ρ σ ph H w Q d1 d2 v1 v2 r1 r2 h
  cases d1 with
  | lst xs =>
    cases d2 with
    | int k =>
      by_cases hc : 0 ≤ k ∧ k < 1000 ∧ xs.length * k.toNat ≤ line
      · simp only [repD, if_pos hc] at h
        obtain ⟨a, vs, rfl, ⟨na, ha⟩, ra⟩ := lst_of r1
        have la := ra.length
        exact ⟨a, k, vs, rfl, int_of r2, ha, by omega, by omega, by rw [sizeLine_eq, ← la]; exact hc.2.2, fun p hp => h.lst hp (repl_rep ra _)⟩
      · simp only [repD, if_neg hc] at h; exact h.no
    | _ => exact h.no
  | _ => exact h.no
end
end FL

namespace K02
open PySem FL
open L2 (V Hp FnOk Vals Binds)
def topS (i : Nat) : Stmt := PySem.Challenge.pw_wherelaid_k02_whole_places_and_rows.main.body.getD i (.Pass ⟨0, 0, 0, 0⟩)
abbrev si_1 : Stmt := L2.inClass (topS 3) 0
abbrev si_2 : Stmt := L2.inClass (topS 4) 0
abbrev si_3 : Stmt := L2.inClass (topS 5) 0
abbrev s__law_hand : Stmt := topS 29
abbrev s__law_mixed : Stmt := topS 30
abbrev s__law_take : Stmt := topS 31
abbrev s__law_unlike : Stmt := topS 42
abbrev s__law_gcd : Stmt := topS 32
abbrev s__law_ratio : Stmt := topS 33
abbrev s__law_bounded : Stmt := topS 38
abbrev s__law_coordinate : Stmt := topS 40
abbrev s__law_near : Stmt := topS 41
abbrev s__law_spots : Stmt := topS 43
abbrev s_is_whole : Stmt := topS 9
abbrev s_is_ratio : Stmt := topS 10
abbrev s_is_small : Stmt := topS 11
abbrev s_is_place : Stmt := topS 18
abbrev s_check_places : Stmt := topS 20
abbrev s__law_try : Stmt := topS 45
abbrev s__law_arm : Stmt := topS 39
abbrev s__law_odd : Stmt := topS 48
abbrev s__law_due : Stmt := topS 49
abbrev s__law_tuples : Stmt := topS 37
abbrev s__lowest : Stmt := topS 12
abbrev s_plus : Stmt := topS 13
abbrev s_shift_place : Stmt := topS 22
abbrev s_times : Stmt := topS 15
abbrev s_stretch_place : Stmt := topS 25
abbrev s__law_times : Stmt := topS 36
abbrev s__law_minus : Stmt := topS 35
abbrev s__law_cross : Stmt := topS 44
abbrev s_minus : Stmt := topS 14
abbrev s_cross_of : Stmt := topS 26
abbrev s_in_row : Stmt := topS 27
abbrev s_check_leg : Stmt := topS 21
abbrev s__law_leg : Stmt := topS 50
abbrev s_check_place : Stmt := topS 19
abbrev s__law_bare : Stmt := topS 47
abbrev s__law_one : Stmt := topS 46
abbrev s__law_plus : Stmt := topS 34
abbrev s_negative : Stmt := topS 16
abbrev s_turn_place : Stmt := topS 23
abbrev s_mirror_place : Stmt := topS 24
abbrev s_law : Stmt := topS 51
structure Tx (K : PySem.W.Frag) (mg : Str → Option Value) (cm : Nat → Addr) : Prop where
  g_gcd : mg "gcd" = some (.builtin "math.gcd")
  n_abs : mg "abs" = none
  n_bool : mg "bool" = none
  n_enumerate : mg "enumerate" = none
  n_int : mg "int" = none
  n_isinstance : mg "isinstance" = none
  n_len : mg "len" = none
  n_list : mg "list" = none
  n_range : mg "range" = none
  n_repr : mg "repr" = none
  n_tuple : mg "tuple" = none
  c_SMALL : FL.GInt mg "SMALL" 1000000000000
  c_ZERO : FL.GTup K mg "ZERO" 0 1
  x_1 : mg "BadPlace" = some (.ref (cm 1))
  exc_1 {P : Program} {w : World} {base : Heap} : FL.ExcH P w K mg base "BadPlace" (cm 1) ["place"]
  x_2 : mg "BadPlaces" = some (.ref (cm 2))
  exc_2 {P : Program} {w : World} {base : Heap} : FL.ExcH P w K mg base "BadPlaces" (cm 2) ["index", "what"]
  x_3 : mg "NoLeg" = some (.ref (cm 3))
  exc_3 {P : Program} {w : World} {base : Heap} : FL.ExcH P w K mg base "NoLeg" (cm 3) ["leg"]
  em_1_1 : PySem.W.exmOne K (.ref (cm 1)) (.ref (cm 1)) = some true
  em_2_2 : PySem.W.exmOne K (.ref (cm 2)) (.ref (cm 2)) = some true
  em_3_3 : PySem.W.exmOne K (.ref (cm 3)) (.ref (cm 3)) = some true
  xf_1 : L2.XfC K (cm 1)
  xf_2 : L2.XfC K (cm 2)
  xf_3 : L2.XfC K (cm 3)
  no_1_place : PySem.W.findIn K (.ref (cm 1)) "place" = some none
  no_2_index : PySem.W.findIn K (.ref (cm 2)) "index" = some none
  no_2_what : PySem.W.findIn K (.ref (cm 2)) "what" = some none
  no_3_leg : PySem.W.findIn K (.ref (cm 3)) "leg" = some none
  d__law_hand : ∃ f fd, FL.DefAt K mg "_law_hand" s__law_hand [] f fd
  d__law_mixed : ∃ f fd, FL.DefAt K mg "_law_mixed" s__law_mixed [] f fd
  d__law_take : ∃ f fd, FL.DefAt K mg "_law_take" s__law_take [] f fd
  d__law_unlike : ∃ f fd, FL.DefAt K mg "_law_unlike" s__law_unlike [] f fd
  d__law_gcd : ∃ f fd, FL.DefAt K mg "_law_gcd" s__law_gcd [] f fd
  d__law_ratio : ∃ f fd, FL.DefAt K mg "_law_ratio" s__law_ratio [] f fd
  d__law_bounded : ∃ f fd, FL.DefAt K mg "_law_bounded" s__law_bounded [] f fd
  d__law_coordinate : ∃ f fd, FL.DefAt K mg "_law_coordinate" s__law_coordinate [] f fd
  d__law_near : ∃ f fd, FL.DefAt K mg "_law_near" s__law_near [] f fd
  d__law_spots : ∃ f fd, FL.DefAt K mg "_law_spots" s__law_spots [] f fd
  d_is_whole : ∃ f fd, FL.DefAt K mg "is_whole" s_is_whole [.non, .non] f fd
  d_is_ratio : ∃ f fd, FL.DefAt K mg "is_ratio" s_is_ratio [] f fd
  d_is_small : ∃ f fd, FL.DefAt K mg "is_small" s_is_small [] f fd
  d_is_place : ∃ f fd, FL.DefAt K mg "is_place" s_is_place [] f fd
  d_check_places : ∃ f fd, FL.DefAt K mg "check_places" s_check_places [] f fd
  d__law_try : ∃ f fd, FL.DefAt K mg "_law_try" s__law_try [] f fd
  d__law_arm : ∃ f fd, FL.DefAt K mg "_law_arm" s__law_arm [] f fd
  d__law_odd : ∃ f fd, FL.DefAt K mg "_law_odd" s__law_odd [] f fd
  d__law_due : ∃ f fd, FL.DefAt K mg "_law_due" s__law_due [] f fd
  d__law_tuples : ∃ f fd, FL.DefAt K mg "_law_tuples" s__law_tuples [] f fd
  d__lowest : ∃ f fd, FL.DefAt K mg "_lowest" s__lowest [] f fd
  d_plus : ∃ f fd, FL.DefAt K mg "plus" s_plus [] f fd
  d_shift_place : ∃ f fd, FL.DefAt K mg "shift_place" s_shift_place [] f fd
  d_times : ∃ f fd, FL.DefAt K mg "times" s_times [] f fd
  d_stretch_place : ∃ f fd, FL.DefAt K mg "stretch_place" s_stretch_place [] f fd
  d__law_times : ∃ f fd, FL.DefAt K mg "_law_times" s__law_times [] f fd
  d__law_minus : ∃ f fd, FL.DefAt K mg "_law_minus" s__law_minus [] f fd
  d__law_cross : ∃ f fd, FL.DefAt K mg "_law_cross" s__law_cross [] f fd
  d_minus : ∃ f fd, FL.DefAt K mg "minus" s_minus [] f fd
  d_cross_of : ∃ f fd, FL.DefAt K mg "cross_of" s_cross_of [] f fd
  d_in_row : ∃ f fd, FL.DefAt K mg "in_row" s_in_row [] f fd
  d_check_leg : ∃ f fd, FL.DefAt K mg "check_leg" s_check_leg [] f fd
  d__law_leg : ∃ f fd, FL.DefAt K mg "_law_leg" s__law_leg [] f fd
  d_check_place : ∃ f fd, FL.DefAt K mg "check_place" s_check_place [] f fd
  d__law_bare : ∃ f fd, FL.DefAt K mg "_law_bare" s__law_bare [] f fd
  d__law_one : ∃ f fd, FL.DefAt K mg "_law_one" s__law_one [] f fd
  d__law_plus : ∃ f fd, FL.DefAt K mg "_law_plus" s__law_plus [] f fd
  d_negative : ∃ f fd, FL.DefAt K mg "negative" s_negative [] f fd
  d_turn_place : ∃ f fd, FL.DefAt K mg "turn_place" s_turn_place [] f fd
  d_mirror_place : ∃ f fd, FL.DefAt K mg "mirror_place" s_mirror_place [] f fd
  d_law : ∃ f fd, FL.DefAt K mg "law" s_law [] f fd
def fuel__law_gcd : FL.Env → Wd → Nat := fun ρ _ => match ρ[1]? with | some (Slot.val (D.int j)) => j.natAbs + 1 | _ => 0
section
variable {P : Program} {w : World} {K : PySem.W.Frag} {mg : Str → Option Value} {base : Heap} {cm : Nat → Addr}
abbrev N__law_hand : List Str := ["script", "total", "cells", "cell"]
theorem sc__law_hand : L2.FnScope N__law_hand ["script"] (L2.defScope s__law_hand) := ⟨rfl, rfl, rfl, by decide +kernel, rfl, by decide +kernel, by decide +kernel⟩
def B__law_hand_0 : SF := (sSeq (sSet 1 (eBin modD (eCall (un1 intD) [(eBin addD (eBin mulD (eVar 1) (eC (.int 1021))) (eCall (un1 intD) [(eVar 3)]))]) (eC (.int 2147483587)))) (sApp 2 (eCall (un1 absD) [(eCall (un1 intD) [(eVar 3)])])))
theorem B__law_hand_0_w {ρ : FL.Env} {w : Wd} : B__law_hand_0 ρ w = (sSeq (sSet 1 (eBin modD (eCall (un1 intD) [(eBin addD (eBin mulD (eVar 1) (eC (.int 1021))) (eCall (un1 intD) [(eVar 3)]))]) (eC (.int 2147483587)))) (sApp 2 (eCall (un1 absD) [(eCall (un1 intD) [(eVar 3)])]))) ρ w := rfl
def F__law_hand : List D → M D := callF 4 (sSeq (sSet 1 (eBin addD (eCall (un1 lenD) [(eVar 0)]) (eC (.int 53)))) (sSeq (sOwn 2 (evs [])) (sSeq (sFor (iSeq (eVar 0)) (gN 3) B__law_hand_0) (sSeq (sFrz 2) (sRet (eHand [(eVar 2), (eC (.int 0)), (eC (.int 0)), (eVar 1)]))))))
theorem has__law_hand (T : Tx K mg cm)  : FL.Has P w K mg base cm "_law_hand" 2 ["script"] [[]] [] 1 F__law_hand :=
  FL.has_of T.d__law_hand sc__law_hand rfl rfl (by decide) (fun _ _ _ _ _ _ us hl => match us, hl with | [_], _ => rfl) (fun f cdv A outer s H E q hr => by have tk : L2N.Takes (L2.cxOf (L2N.CX P w) P w K mg base N__law_hand "_law_hand" (L2.defScope s__law_hand) f cdv A outer s H E) (fun cls d _ H' => E cls d H') := L2N.takes_of rfl rfl rfl rfl; have pa : PassesOwn (model P w) (L2.cxOf (L2N.CX P w) P w K mg base N__law_hand "_law_hand" (L2.defScope s__law_hand) f cdv A outer s H E).A (L2.cxOf (L2N.CX P w) P w K mg base N__law_hand "_law_hand" (L2.defScope s__law_hand) f cdv A outer s H E).env (L2.cxOf (L2N.CX P w) P w K mg base N__law_hand "_law_hand" (L2.defScope s__law_hand) f cdv A outer s H E).xe := L2.passes_of rfl; exact (FL.pssx_cons (FL.psx_set sc__law_hand.nd (i := 1) rfl (by first | exact Or.inl rfl | exact Or.inr rfl) (FL.px_bin FL.op_addA FL.add_ok (FL.px_callB L2.call_len FL.len_ok (by rfl) T.n_len FL.bt_len (FL.pax_cons (FL.px_var 0) FL.pax_nil)) FL.px_int)) (FL.pssx_cons (FL.psx_own sc__law_hand.nd (i := 2) rfl (by first | exact Or.inl rfl | exact Or.inr rfl) (FL.pnx_lst FL.pax_nil)) (FL.pssx_cons (FL.psx_for pa rfl (FL.pix_any (FL.px_var 0)) (L2.pg_name (i := 3) sc__law_hand.nd rfl (by first | exact Or.inl rfl | exact Or.inr rfl)) (FL.tgx_n 3) (FL.pssx_cons (FL.psx_set sc__law_hand.nd (i := 1) rfl (by first | exact Or.inl rfl | exact Or.inr rfl) (FL.px_bin L2.op_modN FL.mod_ok (FL.px_callTy L2.call_int1 FL.int_ok (by rfl) T.n_int FL.bt_int (FL.pax_cons (FL.px_bin FL.op_addA FL.add_ok (FL.px_bin L2.op_mulW FL.mul_ok (FL.px_var 1) FL.px_int) (FL.px_callTy L2.call_int1 FL.int_ok (by rfl) T.n_int FL.bt_int (FL.pax_cons (FL.px_var 3) FL.pax_nil))) FL.pax_nil)) FL.px_int)) (FL.pssx_one (FL.psx_appE 2 (FL.px_callB L2.call_abs FL.abs_ok (by rfl) T.n_abs FL.bt_abs (FL.pax_cons (FL.px_callTy L2.call_int1 FL.int_ok (by rfl) T.n_int FL.bt_int (FL.pax_cons (FL.px_var 3) FL.pax_nil)) FL.pax_nil)))))) (FL.pssx_frz 2 (FL.pssx_one (FL.psx_ret (FL.px_hand (FL.pax_cons (FL.px_var 2) (FL.pax_cons FL.px_int (FL.pax_cons FL.px_int (FL.pax_cons (FL.px_var 1) FL.pax_nil))))))))))))
abbrev N__law_mixed : List Str := ["number", "turn", "once", "twice"]
theorem sc__law_mixed : L2.FnScope N__law_mixed ["number", "turn"] (L2.defScope s__law_mixed) := ⟨rfl, rfl, rfl, by decide +kernel, rfl, by decide +kernel, by decide +kernel⟩
def F__law_mixed : List D → M D := callF 4 (sSeq (sSet 2 (eBin modD (eCall (un1 intD) [(eBin addD (eBin addD (eBin mulD (eVar 0) (eC (.int 69621))) (eBin mulD (eVar 1) (eC (.int 7907)))) (eC (.int 40503)))]) (eC (.int 2147483647)))) (sSeq (sSet 3 (eBin modD (eCall (un1 intD) [(eBin addD (eBin addD (eBin mulD (eVar 2) (eVar 2)) (eBin mulD (eVar 1) (eC (.int 104723)))) (eBin fdivD (eVar 2) (eC (.int 131))))]) (eC (.int 2147483629)))) (sRet (eBin fdivD (eCall (un1 intD) [(eBin modD (eCall (un1 intD) [(eBin addD (eBin mulD (eVar 3) (eC (.int 48271))) (eBin fdivD (eVar 2) (eC (.int 7))))]) (eC (.int 2147483579)))]) (eC (.int 32))))))
theorem has__law_mixed (T : Tx K mg cm)  : FL.Has P w K mg base cm "_law_mixed" 2 ["number", "turn"] [[]] [] 2 F__law_mixed :=
  FL.has_of T.d__law_mixed sc__law_mixed rfl rfl (by decide) (fun _ _ _ _ _ _ us hl => match us, hl with | [_, _], _ => rfl) (fun f cdv A outer s H E q hr => by have tk : L2N.Takes (L2.cxOf (L2N.CX P w) P w K mg base N__law_mixed "_law_mixed" (L2.defScope s__law_mixed) f cdv A outer s H E) (fun cls d _ H' => E cls d H') := L2N.takes_of rfl rfl rfl rfl; have pa : PassesOwn (model P w) (L2.cxOf (L2N.CX P w) P w K mg base N__law_mixed "_law_mixed" (L2.defScope s__law_mixed) f cdv A outer s H E).A (L2.cxOf (L2N.CX P w) P w K mg base N__law_mixed "_law_mixed" (L2.defScope s__law_mixed) f cdv A outer s H E).env (L2.cxOf (L2N.CX P w) P w K mg base N__law_mixed "_law_mixed" (L2.defScope s__law_mixed) f cdv A outer s H E).xe := L2.passes_of rfl; exact (FL.pssx_cons (FL.psx_set sc__law_mixed.nd (i := 2) rfl (by first | exact Or.inl rfl | exact Or.inr rfl) (FL.px_bin L2.op_modN FL.mod_ok (FL.px_callTy L2.call_int1 FL.int_ok (by rfl) T.n_int FL.bt_int (FL.pax_cons (FL.px_bin FL.op_addA FL.add_ok (FL.px_bin FL.op_addA FL.add_ok (FL.px_bin L2.op_mulW FL.mul_ok (FL.px_var 0) FL.px_int) (FL.px_bin L2.op_mulW FL.mul_ok (FL.px_var 1) FL.px_int)) FL.px_int) FL.pax_nil)) FL.px_int)) (FL.pssx_cons (FL.psx_set sc__law_mixed.nd (i := 3) rfl (by first | exact Or.inl rfl | exact Or.inr rfl) (FL.px_bin L2.op_modN FL.mod_ok (FL.px_callTy L2.call_int1 FL.int_ok (by rfl) T.n_int FL.bt_int (FL.pax_cons (FL.px_bin FL.op_addA FL.add_ok (FL.px_bin FL.op_addA FL.add_ok (FL.px_bin L2.op_mulW FL.mul_ok (FL.px_var 2) (FL.px_var 2)) (FL.px_bin L2.op_mulW FL.mul_ok (FL.px_var 1) FL.px_int)) (FL.px_bin FL.op_fdivZ FL.fdiv_ok (FL.px_var 2) FL.px_int)) FL.pax_nil)) FL.px_int)) (FL.pssx_one (FL.psx_ret (FL.px_bin FL.op_fdivZ FL.fdiv_ok (FL.px_callTy L2.call_int1 FL.int_ok (by rfl) T.n_int FL.bt_int (FL.pax_cons (FL.px_bin L2.op_modN FL.mod_ok (FL.px_callTy L2.call_int1 FL.int_ok (by rfl) T.n_int FL.bt_int (FL.pax_cons (FL.px_bin FL.op_addA FL.add_ok (FL.px_bin L2.op_mulW FL.mul_ok (FL.px_var 3) FL.px_int) (FL.px_bin FL.op_fdivZ FL.fdiv_ok (FL.px_var 2) FL.px_int)) FL.pax_nil)) FL.px_int) FL.pax_nil)) FL.px_int))))))
abbrev N__law_take : List Str := ["hand", "many", "cell", "rest"]
theorem sc__law_take : L2.FnScope N__law_take ["hand", "many"] (L2.defScope s__law_take) := ⟨rfl, rfl, rfl, by decide +kernel, rfl, by decide +kernel, by decide +kernel⟩
def F__law_take : List D → M D := callF 4 (sSeq (sIf (tAnd (tVal (eBin eqD (eBin ixD (eVar 0) (eC (.int 2))) (eC (.int 0)))) (tVal (eBin ltD (eBin ixD (eVar 0) (eC (.int 1))) (eCall (un1 lenD) [(eBin ixD (eVar 0) (eC (.int 0)))])))) (sSeq (sSet 2 (eBin ixD (eBin ixD (eVar 0) (eC (.int 0))) (eBin ixD (eVar 0) (eC (.int 1))))) (sSeq (sHSet (eVar 0) (eC (.int 1)) (eBin addD (eBin ixD (eVar 0) (eC (.int 1))) (eC (.int 1)))) (sSeq (sIf (tVal (eBin ltD (eVar 2) (eBin powD (eC (.int 10)) (eC (.int 18))))) (sRet (eBin modD (eCall (un1 intD) [(eCall F__law_mixed [(eBin modD (eCall (un1 intD) [(eVar 2)]) (eC (.int 2147483647))), (eBin ixD (eVar 0) (eC (.int 1)))])]) (eVar 1))) sNext) (sHSet (eVar 0) (eC (.int 2)) (eVar 2))))) sNext) (sSeq (sIf (tVal (eBin gtD (eBin ixD (eVar 0) (eC (.int 2))) (eC (.int 0)))) (sSeq (sSet 3 (eBin ixD (eVar 0) (eC (.int 2)))) (sSeq (sHSet (eVar 0) (eC (.int 2)) (eBin fdivD (eCall (un1 intD) [(eVar 3)]) (eVar 1))) (sRet (eBin modD (eCall (un1 intD) [(eVar 3)]) (eVar 1))))) sNext) (sSeq (sHSet (eVar 0) (eC (.int 3)) (eBin modD (eCall (un1 intD) [(eBin addD (eBin ixD (eVar 0) (eC (.int 3))) (eC (.int 1)))]) (eC (.int 2147483587)))) (sRet (eBin modD (eCall (un1 intD) [(eCall F__law_mixed [(eBin ixD (eVar 0) (eC (.int 3))), (eBin ixD (eVar 0) (eC (.int 1)))])]) (eVar 1))))))
theorem has__law_take (T : Tx K mg cm) (G__law_mixed : FL.Has P w K mg base cm "_law_mixed" 2 ["number", "turn"] [[]] [] 2 F__law_mixed) : FL.Has P w K mg base cm "_law_take" 3 ["hand", "many"] [[]] [] 2 F__law_take :=
  FL.has_of T.d__law_take sc__law_take rfl rfl (by decide) (fun _ _ _ _ _ _ us hl => match us, hl with | [_, _], _ => rfl) (fun f cdv A outer s H E q hr => by have tk : L2N.Takes (L2.cxOf (L2N.CX P w) P w K mg base N__law_take "_law_take" (L2.defScope s__law_take) f cdv A outer s H E) (fun cls d _ H' => E cls d H') := L2N.takes_of rfl rfl rfl rfl; have pa : PassesOwn (model P w) (L2.cxOf (L2N.CX P w) P w K mg base N__law_take "_law_take" (L2.defScope s__law_take) f cdv A outer s H E).A (L2.cxOf (L2N.CX P w) P w K mg base N__law_take "_law_take" (L2.defScope s__law_take) f cdv A outer s H E).env (L2.cxOf (L2N.CX P w) P w K mg base N__law_take "_law_take" (L2.defScope s__law_take) f cdv A outer s H E).xe := L2.passes_of rfl; exact (FL.pssx_cons (FL.psx_if (FL.PWX.pt (FL.pwx_and (FL.ptx_cmp (L2.op_eqD (FL.hu64 hr)) FL.eq_ok (FL.px_ix (FL.px_var 0) FL.px_int) FL.px_int (L2.nomark _)) (FL.pwx_and1 (FL.ptx_cmp L2.op_lt FL.lt_ok (FL.px_ix (FL.px_var 0) FL.px_int) (FL.px_callB L2.call_len FL.len_ok (by rfl) T.n_len FL.bt_len (FL.pax_cons (FL.px_ix (FL.px_var 0) FL.px_int) FL.pax_nil)) (L2.nomark _))))) (FL.pssx_cons (FL.psx_set sc__law_take.nd (i := 2) rfl (by first | exact Or.inl rfl | exact Or.inr rfl) (FL.px_ix (FL.px_ix (FL.px_var 0) FL.px_int) (FL.px_ix (FL.px_var 0) FL.px_int))) (FL.pssx_cons (FL.psx_hset (FL.px_bin FL.op_addA FL.add_ok (FL.px_ix (FL.px_var 0) FL.px_int) FL.px_int) (FL.px_var 0) FL.px_int (L2.pg_sub (FL.px_var 0) FL.px_int L2.set_list)) (FL.pssx_cons (FL.psx_if (FL.ptx_cmp L2.op_lt FL.lt_ok (FL.px_var 2) (FL.px_bin L2.op_pow FL.pow_ok FL.px_int FL.px_int) (L2.nomark _)) (FL.pssx_one (FL.psx_ret (FL.px_bin L2.op_modN FL.mod_ok (FL.px_callTy L2.call_int1 FL.int_ok (by rfl) T.n_int FL.bt_int (FL.pax_cons (FL.px_has G__law_mixed (hr.mono (by decide)) tk (by rfl) (FL.pax_cons (FL.px_bin L2.op_modN FL.mod_ok (FL.px_callTy L2.call_int1 FL.int_ok (by rfl) T.n_int FL.bt_int (FL.pax_cons (FL.px_var 2) FL.pax_nil)) FL.px_int) (FL.pax_cons (FL.px_ix (FL.px_var 0) FL.px_int) FL.pax_nil))) FL.pax_nil)) (FL.px_var 1)))) FL.pssx_nil) (FL.pssx_one (FL.psx_hset (FL.px_var 2) (FL.px_var 0) FL.px_int (L2.pg_sub (FL.px_var 0) FL.px_int L2.set_list)))))) FL.pssx_nil) (FL.pssx_cons (FL.psx_if (FL.ptx_cmp L2.op_gt FL.gt_ok (FL.px_ix (FL.px_var 0) FL.px_int) FL.px_int (L2.nomark _)) (FL.pssx_cons (FL.psx_set sc__law_take.nd (i := 3) rfl (by first | exact Or.inl rfl | exact Or.inr rfl) (FL.px_ix (FL.px_var 0) FL.px_int)) (FL.pssx_cons (FL.psx_hset (FL.px_bin FL.op_fdivZ FL.fdiv_ok (FL.px_callTy L2.call_int1 FL.int_ok (by rfl) T.n_int FL.bt_int (FL.pax_cons (FL.px_var 3) FL.pax_nil)) (FL.px_var 1)) (FL.px_var 0) FL.px_int (L2.pg_sub (FL.px_var 0) FL.px_int L2.set_list)) (FL.pssx_one (FL.psx_ret (FL.px_bin L2.op_modN FL.mod_ok (FL.px_callTy L2.call_int1 FL.int_ok (by rfl) T.n_int FL.bt_int (FL.pax_cons (FL.px_var 3) FL.pax_nil)) (FL.px_var 1)))))) FL.pssx_nil) (FL.pssx_cons (FL.psx_hset (FL.px_bin L2.op_modN FL.mod_ok (FL.px_callTy L2.call_int1 FL.int_ok (by rfl) T.n_int FL.bt_int (FL.pax_cons (FL.px_bin FL.op_addA FL.add_ok (FL.px_ix (FL.px_var 0) FL.px_int) FL.px_int) FL.pax_nil)) FL.px_int) (FL.px_var 0) FL.px_int (L2.pg_sub (FL.px_var 0) FL.px_int L2.set_list)) (FL.pssx_one (FL.psx_ret (FL.px_bin L2.op_modN FL.mod_ok (FL.px_callTy L2.call_int1 FL.int_ok (by rfl) T.n_int FL.bt_int (FL.pax_cons (FL.px_has G__law_mixed (hr.mono (by decide)) tk (by rfl) (FL.pax_cons (FL.px_ix (FL.px_var 0) FL.px_int) (FL.pax_cons (FL.px_ix (FL.px_var 0) FL.px_int) FL.pax_nil))) FL.pax_nil)) (FL.px_var 1))))))))
abbrev N__law_unlike : List Str := ["place", "places", "turn"]
theorem sc__law_unlike : L2.FnScope N__law_unlike ["place", "places"] (L2.defScope s__law_unlike) := ⟨rfl, rfl, rfl, by decide +kernel, rfl, by decide +kernel, by decide +kernel⟩
def B__law_unlike_0 : SF := (sIf (tVal (eBin inD (eVar 0) (eVar 1))) (sSet 0 (eTup [(eTup [(eBin subD (eVar 2) (eC (.int 3))), (eC (.int 1))]), (eBin ixD (eVar 0) (eC (.int 1)))])) sNext)
theorem B__law_unlike_0_w {ρ : FL.Env} {w : Wd} : B__law_unlike_0 ρ w = (sIf (tVal (eBin inD (eVar 0) (eVar 1))) (sSet 0 (eTup [(eTup [(eBin subD (eVar 2) (eC (.int 3))), (eC (.int 1))]), (eBin ixD (eVar 0) (eC (.int 1)))])) sNext) ρ w := rfl
def F__law_unlike : List D → M D := callF 3 (sSeq (sFor (iRng (eC (.int 0)) (eC (.int 7))) (gN 2) B__law_unlike_0) (sRet (eVar 0)))
theorem has__law_unlike (T : Tx K mg cm)  : FL.Has P w K mg base cm "_law_unlike" 2 ["place", "places"] [[]] [] 2 F__law_unlike :=
  FL.has_of T.d__law_unlike sc__law_unlike rfl rfl (by decide) (fun _ _ _ _ _ _ us hl => match us, hl with | [_, _], _ => rfl) (fun f cdv A outer s H E q hr => by have tk : L2N.Takes (L2.cxOf (L2N.CX P w) P w K mg base N__law_unlike "_law_unlike" (L2.defScope s__law_unlike) f cdv A outer s H E) (fun cls d _ H' => E cls d H') := L2N.takes_of rfl rfl rfl rfl; have pa : PassesOwn (model P w) (L2.cxOf (L2N.CX P w) P w K mg base N__law_unlike "_law_unlike" (L2.defScope s__law_unlike) f cdv A outer s H E).A (L2.cxOf (L2N.CX P w) P w K mg base N__law_unlike "_law_unlike" (L2.defScope s__law_unlike) f cdv A outer s H E).env (L2.cxOf (L2N.CX P w) P w K mg base N__law_unlike "_law_unlike" (L2.defScope s__law_unlike) f cdv A outer s H E).xe := L2.passes_of rfl; exact (FL.pssx_cons (FL.psx_for pa rfl (FL.pix_range1 (by rfl) T.n_range FL.px_int) (L2.pg_name (i := 2) sc__law_unlike.nd rfl (by first | exact Or.inl rfl | exact Or.inr rfl)) (FL.tgx_n 2) (FL.pssx_one (FL.psx_if (FL.ptx_cmp (FL.op_inA (FL.hu65 hr)) FL.in_ok (FL.px_var 0) (FL.px_var 1) (by rfl)) (FL.pssx_one (FL.psx_set sc__law_unlike.nd (i := 0) rfl (by first | exact Or.inl rfl | exact Or.inr rfl) (FL.px_tup (FL.pax_cons (FL.px_tup (FL.pax_cons (FL.px_bin L2.op_sub FL.sub_ok (FL.px_var 2) FL.px_int) (FL.pax_cons FL.px_int FL.pax_nil))) (FL.pax_cons (FL.px_ix (FL.px_var 0) FL.px_int) FL.pax_nil))))) FL.pssx_nil))) (FL.pssx_one (FL.psx_ret (FL.px_var 0)))))
abbrev N__law_gcd : List Str := ["one", "other"]
theorem sc__law_gcd : L2.FnScope N__law_gcd ["one", "other"] (L2.defScope s__law_gcd) := ⟨rfl, rfl, rfl, by decide +kernel, rfl, by decide +kernel, by decide +kernel⟩
def B__law_gcd_0 : SF := (sPar 0 1 (eVar 1) (eBin modD (eCall (un1 intD) [(eVar 0)]) (eVar 1)))
theorem B__law_gcd_0_w {ρ : FL.Env} {w : Wd} : B__law_gcd_0 ρ w = (sPar 0 1 (eVar 1) (eBin modD (eCall (un1 intD) [(eVar 0)]) (eVar 1))) ρ w := rfl
def F__law_gcd : List D → M D := callF 2 (sSeq (sPar 0 1 (eCall (un1 absD) [(eVar 0)]) (eCall (un1 absD) [(eVar 1)])) (sSeq (sWhile fuel__law_gcd (tTru (eVar 1)) B__law_gcd_0) (sRet (eVar 0))))
theorem has__law_gcd (T : Tx K mg cm)  : FL.Has P w K mg base cm "_law_gcd" 2 ["one", "other"] [[]] [] 2 F__law_gcd :=
  FL.has_of T.d__law_gcd sc__law_gcd rfl rfl (by decide) (fun _ _ _ _ _ _ us hl => match us, hl with | [_, _], _ => rfl) (fun f cdv A outer s H E q hr => by have tk : L2N.Takes (L2.cxOf (L2N.CX P w) P w K mg base N__law_gcd "_law_gcd" (L2.defScope s__law_gcd) f cdv A outer s H E) (fun cls d _ H' => E cls d H') := L2N.takes_of rfl rfl rfl rfl; have pa : PassesOwn (model P w) (L2.cxOf (L2N.CX P w) P w K mg base N__law_gcd "_law_gcd" (L2.defScope s__law_gcd) f cdv A outer s H E).A (L2.cxOf (L2N.CX P w) P w K mg base N__law_gcd "_law_gcd" (L2.defScope s__law_gcd) f cdv A outer s H E).env (L2.cxOf (L2N.CX P w) P w K mg base N__law_gcd "_law_gcd" (L2.defScope s__law_gcd) f cdv A outer s H E).xe := L2.passes_of rfl; exact (FL.pssx_cons (FL.psx_par rfl sc__law_gcd.nd (i := 0) (j := 1) rfl rfl (by decide) rfl rfl (FL.pax_cons (FL.px_callB L2.call_abs FL.abs_ok (by rfl) T.n_abs FL.bt_abs (FL.pax_cons (FL.px_var 0) FL.pax_nil)) (FL.pax_cons (FL.px_callB L2.call_abs FL.abs_ok (by rfl) T.n_abs FL.bt_abs (FL.pax_cons (FL.px_var 1) FL.pax_nil)) FL.pax_nil)) (by rfl)) (FL.pssx_cons (FL.psx_while fuel__law_gcd pa (FL.ptx_tru (FL.px_var 1)) (FL.pssx_one (FL.psx_par rfl sc__law_gcd.nd (i := 0) (j := 1) rfl rfl (by decide) rfl rfl (FL.pax_cons (FL.px_var 1) (FL.pax_cons (FL.px_bin L2.op_modN FL.mod_ok (FL.px_callTy L2.call_int1 FL.int_ok (by rfl) T.n_int FL.bt_int (FL.pax_cons (FL.px_var 0) FL.pax_nil)) (FL.px_var 1)) FL.pax_nil)) (by rfl)))) (FL.pssx_one (FL.psx_ret (FL.px_var 0))))))
abbrev N__law_ratio : List Str := ["top", "bottom", "part"]
theorem sc__law_ratio : L2.FnScope N__law_ratio ["top", "bottom"] (L2.defScope s__law_ratio) := ⟨rfl, rfl, rfl, by decide +kernel, rfl, by decide +kernel, by decide +kernel⟩
def F__law_ratio : List D → M D := callF 3 (sSeq (sSet 2 (eCall F__law_gcd [(eVar 0), (eVar 1)])) (sSeq (sIf (tVal (eBin ltD (eVar 1) (eC (.int 0)))) (sSet 2 (eUn negD (eVar 2))) sNext) (sRet (eTup [(eBin fdivD (eVar 0) (eVar 2)), (eBin fdivD (eVar 1) (eVar 2))]))))
theorem has__law_ratio (T : Tx K mg cm) (G__law_gcd : FL.Has P w K mg base cm "_law_gcd" 2 ["one", "other"] [[]] [] 2 F__law_gcd) : FL.Has P w K mg base cm "_law_ratio" 3 ["top", "bottom"] [[]] [] 2 F__law_ratio :=
  FL.has_of T.d__law_ratio sc__law_ratio rfl rfl (by decide) (fun _ _ _ _ _ _ us hl => match us, hl with | [_, _], _ => rfl) (fun f cdv A outer s H E q hr => by have tk : L2N.Takes (L2.cxOf (L2N.CX P w) P w K mg base N__law_ratio "_law_ratio" (L2.defScope s__law_ratio) f cdv A outer s H E) (fun cls d _ H' => E cls d H') := L2N.takes_of rfl rfl rfl rfl; have pa : PassesOwn (model P w) (L2.cxOf (L2N.CX P w) P w K mg base N__law_ratio "_law_ratio" (L2.defScope s__law_ratio) f cdv A outer s H E).A (L2.cxOf (L2N.CX P w) P w K mg base N__law_ratio "_law_ratio" (L2.defScope s__law_ratio) f cdv A outer s H E).env (L2.cxOf (L2N.CX P w) P w K mg base N__law_ratio "_law_ratio" (L2.defScope s__law_ratio) f cdv A outer s H E).xe := L2.passes_of rfl; exact (FL.pssx_cons (FL.psx_set sc__law_ratio.nd (i := 2) rfl (by first | exact Or.inl rfl | exact Or.inr rfl) (FL.px_has G__law_gcd (hr.mono (by decide)) tk (by rfl) (FL.pax_cons (FL.px_var 0) (FL.pax_cons (FL.px_var 1) FL.pax_nil)))) (FL.pssx_cons (FL.psx_if (FL.ptx_cmp L2.op_lt FL.lt_ok (FL.px_var 1) FL.px_int (L2.nomark _)) (FL.pssx_one (FL.psx_set sc__law_ratio.nd (i := 2) rfl (by first | exact Or.inl rfl | exact Or.inr rfl) (FL.px_un L2.un_neg FL.neg_ok (FL.px_var 2)))) FL.pssx_nil) (FL.pssx_one (FL.psx_ret (FL.px_tup (FL.pax_cons (FL.px_bin FL.op_fdivZ FL.fdiv_ok (FL.px_var 0) (FL.px_var 2)) (FL.pax_cons (FL.px_bin FL.op_fdivZ FL.fdiv_ok (FL.px_var 1) (FL.px_var 2)) FL.pax_nil))))))))
abbrev N__law_bounded : List Str := ["hand", "kind"]
theorem sc__law_bounded : L2.FnScope N__law_bounded ["hand"] (L2.defScope s__law_bounded) := ⟨rfl, rfl, rfl, by decide +kernel, rfl, by decide +kernel, by decide +kernel⟩
def F__law_bounded : List D → M D := callF 2 (sSeq (sSet 1 (eCall F__law_take [(eVar 0), (eC (.int 8))])) (sSeq (sIf (tVal (eBin ltD (eVar 1) (eC (.int 6)))) (sRet (eBin addD (eC (.int 1)) (eCall F__law_take [(eVar 0), (eC (.int 4))]))) sNext) (sRet (eIf (tVal (eBin eqD (eVar 1) (eC (.int 6)))) (eBin powD (eC (.int 10)) (eC (.int 12))) (eBin addD (eBin addD (eC (.int 1)) (eBin mulD (eCall F__law_take [(eVar 0), (eBin powD (eC (.int 10)) (eC (.int 6)))]) (eBin powD (eC (.int 10)) (eC (.int 6))))) (eCall F__law_take [(eVar 0), (eBin powD (eC (.int 10)) (eC (.int 6)))]))))))
theorem has__law_bounded (T : Tx K mg cm) (G__law_take : FL.Has P w K mg base cm "_law_take" 3 ["hand", "many"] [[]] [] 2 F__law_take) : FL.Has P w K mg base cm "_law_bounded" 4 ["hand"] [[]] [] 1 F__law_bounded :=
  FL.has_of T.d__law_bounded sc__law_bounded rfl rfl (by decide) (fun _ _ _ _ _ _ us hl => match us, hl with | [_], _ => rfl) (fun f cdv A outer s H E q hr => by have tk : L2N.Takes (L2.cxOf (L2N.CX P w) P w K mg base N__law_bounded "_law_bounded" (L2.defScope s__law_bounded) f cdv A outer s H E) (fun cls d _ H' => E cls d H') := L2N.takes_of rfl rfl rfl rfl; have pa : PassesOwn (model P w) (L2.cxOf (L2N.CX P w) P w K mg base N__law_bounded "_law_bounded" (L2.defScope s__law_bounded) f cdv A outer s H E).A (L2.cxOf (L2N.CX P w) P w K mg base N__law_bounded "_law_bounded" (L2.defScope s__law_bounded) f cdv A outer s H E).env (L2.cxOf (L2N.CX P w) P w K mg base N__law_bounded "_law_bounded" (L2.defScope s__law_bounded) f cdv A outer s H E).xe := L2.passes_of rfl; exact (FL.pssx_cons (FL.psx_set sc__law_bounded.nd (i := 1) rfl (by first | exact Or.inl rfl | exact Or.inr rfl) (FL.px_has G__law_take (hr.mono (by decide)) tk (by rfl) (FL.pax_cons (FL.px_var 0) (FL.pax_cons FL.px_int FL.pax_nil)))) (FL.pssx_cons (FL.psx_if (FL.ptx_cmp L2.op_lt FL.lt_ok (FL.px_var 1) FL.px_int (L2.nomark _)) (FL.pssx_one (FL.psx_ret (FL.px_bin FL.op_addA FL.add_ok FL.px_int (FL.px_has G__law_take (hr.mono (by decide)) tk (by rfl) (FL.pax_cons (FL.px_var 0) (FL.pax_cons FL.px_int FL.pax_nil)))))) FL.pssx_nil) (FL.pssx_one (FL.psx_ret (FL.px_if (FL.ptx_cmp (L2.op_eqD (FL.hu64 hr)) FL.eq_ok (FL.px_var 1) FL.px_int (L2.nomark _)) (FL.px_bin L2.op_pow FL.pow_ok FL.px_int FL.px_int) (FL.px_bin FL.op_addA FL.add_ok (FL.px_bin FL.op_addA FL.add_ok FL.px_int (FL.px_bin L2.op_mulW FL.mul_ok (FL.px_has G__law_take (hr.mono (by decide)) tk (by rfl) (FL.pax_cons (FL.px_var 0) (FL.pax_cons (FL.px_bin L2.op_pow FL.pow_ok FL.px_int FL.px_int) FL.pax_nil))) (FL.px_bin L2.op_pow FL.pow_ok FL.px_int FL.px_int))) (FL.px_has G__law_take (hr.mono (by decide)) tk (by rfl) (FL.pax_cons (FL.px_var 0) (FL.pax_cons (FL.px_bin L2.op_pow FL.pow_ok FL.px_int FL.px_int) FL.pax_nil))))))))))
abbrev N__law_coordinate : List Str := ["hand"]
theorem sc__law_coordinate : L2.FnScope N__law_coordinate ["hand"] (L2.defScope s__law_coordinate) := ⟨rfl, rfl, rfl, by decide +kernel, rfl, by decide +kernel, by decide +kernel⟩
def F__law_coordinate : List D → M D := callF 1 (sSeq (sIf (tTru (eCall F__law_take [(eVar 0), (eC (.int 5))])) (sRet (eTup [(eBin subD (eCall F__law_take [(eVar 0), (eC (.int 9))]) (eC (.int 4))), (eC (.int 1))])) sNext) (sRet (eCall F__law_ratio [(eBin mulD (eCall F__law_bounded [(eVar 0)]) (eBin subD (eC (.int 1)) (eBin mulD (eC (.int 2)) (eCall F__law_take [(eVar 0), (eC (.int 2))])))), (eCall F__law_bounded [(eVar 0)])])))
theorem has__law_coordinate (T : Tx K mg cm) (G__law_bounded : FL.Has P w K mg base cm "_law_bounded" 4 ["hand"] [[]] [] 1 F__law_bounded) (G__law_ratio : FL.Has P w K mg base cm "_law_ratio" 3 ["top", "bottom"] [[]] [] 2 F__law_ratio) (G__law_take : FL.Has P w K mg base cm "_law_take" 3 ["hand", "many"] [[]] [] 2 F__law_take) : FL.Has P w K mg base cm "_law_coordinate" 5 ["hand"] [[]] [] 1 F__law_coordinate :=
  FL.has_of T.d__law_coordinate sc__law_coordinate rfl rfl (by decide) (fun _ _ _ _ _ _ us hl => match us, hl with | [_], _ => rfl) (fun f cdv A outer s H E q hr => by have tk : L2N.Takes (L2.cxOf (L2N.CX P w) P w K mg base N__law_coordinate "_law_coordinate" (L2.defScope s__law_coordinate) f cdv A outer s H E) (fun cls d _ H' => E cls d H') := L2N.takes_of rfl rfl rfl rfl; have pa : PassesOwn (model P w) (L2.cxOf (L2N.CX P w) P w K mg base N__law_coordinate "_law_coordinate" (L2.defScope s__law_coordinate) f cdv A outer s H E).A (L2.cxOf (L2N.CX P w) P w K mg base N__law_coordinate "_law_coordinate" (L2.defScope s__law_coordinate) f cdv A outer s H E).env (L2.cxOf (L2N.CX P w) P w K mg base N__law_coordinate "_law_coordinate" (L2.defScope s__law_coordinate) f cdv A outer s H E).xe := L2.passes_of rfl; exact (FL.pssx_cons (FL.psx_if (FL.ptx_tru (FL.px_has G__law_take (hr.mono (by decide)) tk (by rfl) (FL.pax_cons (FL.px_var 0) (FL.pax_cons FL.px_int FL.pax_nil)))) (FL.pssx_one (FL.psx_ret (FL.px_tup (FL.pax_cons (FL.px_bin L2.op_sub FL.sub_ok (FL.px_has G__law_take (hr.mono (by decide)) tk (by rfl) (FL.pax_cons (FL.px_var 0) (FL.pax_cons FL.px_int FL.pax_nil))) FL.px_int) (FL.pax_cons FL.px_int FL.pax_nil))))) FL.pssx_nil) (FL.pssx_one (FL.psx_ret (FL.px_has G__law_ratio (hr.mono (by decide)) tk (by rfl) (FL.pax_cons (FL.px_bin L2.op_mulW FL.mul_ok (FL.px_has G__law_bounded (hr.mono (by decide)) tk (by rfl) (FL.pax_cons (FL.px_var 0) FL.pax_nil)) (FL.px_bin L2.op_sub FL.sub_ok FL.px_int (FL.px_bin L2.op_mulW FL.mul_ok FL.px_int (FL.px_has G__law_take (hr.mono (by decide)) tk (by rfl) (FL.pax_cons (FL.px_var 0) (FL.pax_cons FL.px_int FL.pax_nil)))))) (FL.pax_cons (FL.px_has G__law_bounded (hr.mono (by decide)) tk (by rfl) (FL.pax_cons (FL.px_var 0) FL.pax_nil)) FL.pax_nil)))))))
abbrev N__law_near : List Str := ["hand"]
theorem sc__law_near : L2.FnScope N__law_near ["hand"] (L2.defScope s__law_near) := ⟨rfl, rfl, rfl, by decide +kernel, rfl, by decide +kernel, by decide +kernel⟩
def F__law_near : List D → M D := callF 1 (sRet (eCall F__law_ratio [(eBin subD (eCall F__law_take [(eVar 0), (eC (.int 9))]) (eC (.int 4))), (eIf (tTru (eCall F__law_take [(eVar 0), (eC (.int 4))])) (eC (.int 1)) (eC (.int 2)))]))
theorem has__law_near (T : Tx K mg cm) (G__law_ratio : FL.Has P w K mg base cm "_law_ratio" 3 ["top", "bottom"] [[]] [] 2 F__law_ratio) (G__law_take : FL.Has P w K mg base cm "_law_take" 3 ["hand", "many"] [[]] [] 2 F__law_take) : FL.Has P w K mg base cm "_law_near" 4 ["hand"] [[]] [] 1 F__law_near :=
  FL.has_of T.d__law_near sc__law_near rfl rfl (by decide) (fun _ _ _ _ _ _ us hl => match us, hl with | [_], _ => rfl) (fun f cdv A outer s H E q hr => by have tk : L2N.Takes (L2.cxOf (L2N.CX P w) P w K mg base N__law_near "_law_near" (L2.defScope s__law_near) f cdv A outer s H E) (fun cls d _ H' => E cls d H') := L2N.takes_of rfl rfl rfl rfl; have pa : PassesOwn (model P w) (L2.cxOf (L2N.CX P w) P w K mg base N__law_near "_law_near" (L2.defScope s__law_near) f cdv A outer s H E).A (L2.cxOf (L2N.CX P w) P w K mg base N__law_near "_law_near" (L2.defScope s__law_near) f cdv A outer s H E).env (L2.cxOf (L2N.CX P w) P w K mg base N__law_near "_law_near" (L2.defScope s__law_near) f cdv A outer s H E).xe := L2.passes_of rfl; exact (FL.pssx_one (FL.psx_ret (FL.px_has G__law_ratio (hr.mono (by decide)) tk (by rfl) (FL.pax_cons (FL.px_bin L2.op_sub FL.sub_ok (FL.px_has G__law_take (hr.mono (by decide)) tk (by rfl) (FL.pax_cons (FL.px_var 0) (FL.pax_cons FL.px_int FL.pax_nil))) FL.px_int) (FL.pax_cons (FL.px_if (FL.ptx_tru (FL.px_has G__law_take (hr.mono (by decide)) tk (by rfl) (FL.pax_cons (FL.px_var 0) (FL.pax_cons FL.px_int FL.pax_nil)))) FL.px_int FL.px_int) FL.pax_nil))))))
abbrev N__law_spots : List Str := ["hand", "many", "great", "found", "way", "turn", "step", "place"]
theorem sc__law_spots : L2.FnScope N__law_spots ["hand", "many", "great"] (L2.defScope s__law_spots) := ⟨rfl, rfl, rfl, by decide +kernel, rfl, by decide +kernel, by decide +kernel⟩
def B__law_spots_0 : SF := (sSeq (sSet 6 (eIf (tVal (eBin ltD (eVar 5) (eBin subD (eVar 1) (eC (.int 1))))) (eBin addD (eBin mulD (eVar 5) (eC (.int 2))) (eCall F__law_take [(eVar 0), (eC (.int 2))])) (eUn negD (eC (.int 1))))) (sApp 3 (eTup [(eTup [(eBin mulD (eVar 6) (eBin ixD (eVar 4) (eC (.int 0)))), (eC (.int 1))]), (eTup [(eBin mulD (eVar 6) (eBin ixD (eVar 4) (eC (.int 1)))), (eC (.int 1))])])))
theorem B__law_spots_0_w {ρ : FL.Env} {w : Wd} : B__law_spots_0 ρ w = (sSeq (sSet 6 (eIf (tVal (eBin ltD (eVar 5) (eBin subD (eVar 1) (eC (.int 1))))) (eBin addD (eBin mulD (eVar 5) (eC (.int 2))) (eCall F__law_take [(eVar 0), (eC (.int 2))])) (eUn negD (eC (.int 1))))) (sApp 3 (eTup [(eTup [(eBin mulD (eVar 6) (eBin ixD (eVar 4) (eC (.int 0)))), (eC (.int 1))]), (eTup [(eBin mulD (eVar 6) (eBin ixD (eVar 4) (eC (.int 1)))), (eC (.int 1))])]))) ρ w := rfl
def B__law_spots_1 : SF := (sSeq (sSet 7 (eIf (tTru (eVar 2)) (eTup [(eCall F__law_coordinate [(eVar 0)]), (eCall F__law_coordinate [(eVar 0)])]) (eTup [(eCall F__law_near [(eVar 0)]), (eCall F__law_near [(eVar 0)])]))) (sApp 3 (eBor (eCall F__law_unlike [(eVar 7), (eVar 3)]))))
theorem B__law_spots_1_w {ρ : FL.Env} {w : Wd} : B__law_spots_1 ρ w = (sSeq (sSet 7 (eIf (tTru (eVar 2)) (eTup [(eCall F__law_coordinate [(eVar 0)]), (eCall F__law_coordinate [(eVar 0)])]) (eTup [(eCall F__law_near [(eVar 0)]), (eCall F__law_near [(eVar 0)])]))) (sApp 3 (eBor (eCall F__law_unlike [(eVar 7), (eVar 3)])))) ρ w := rfl
def F__law_spots : List D → M D := callF 8 (sSeq (sOwn 3 (evs [])) (sSeq (sIf (tAnd (tNot (tTru (eVar 2))) (tVal (eBin eqD (eCall F__law_take [(eVar 0), (eC (.int 8))]) (eC (.int 0))))) (sSeq (sSet 4 (eBin ixD (eLst [(eTup [(eC (.int 1)), (eC (.int 0))]), (eTup [(eC (.int 0)), (eC (.int 1))]), (eTup [(eC (.int 1)), (eC (.int 1))]), (eTup [(eC (.int 2)), (eUn negD (eC (.int 1)))])]) (eCall F__law_take [(eVar 0), (eC (.int 4))]))) (sSeq (sFor (iRng (eC (.int 0)) (eVar 1)) (gN 5) B__law_spots_0) (sRetOwn 3))) sNext) (sSeq (sFor (iRng (eC (.int 0)) (eVar 1)) (gN 5) B__law_spots_1) (sSeq (sFrz 3) (sRet (eVar 3))))))
theorem has__law_spots (T : Tx K mg cm) (G__law_coordinate : FL.Has P w K mg base cm "_law_coordinate" 5 ["hand"] [[]] [] 1 F__law_coordinate) (G__law_near : FL.Has P w K mg base cm "_law_near" 4 ["hand"] [[]] [] 1 F__law_near) (G__law_take : FL.Has P w K mg base cm "_law_take" 3 ["hand", "many"] [[]] [] 2 F__law_take) (G__law_unlike : FL.Has P w K mg base cm "_law_unlike" 2 ["place", "places"] [[]] [] 2 F__law_unlike) : FL.Has P w K mg base cm "_law_spots" 6 ["hand", "many", "great"] [[]] [] 3 F__law_spots :=
  FL.has_of T.d__law_spots sc__law_spots rfl rfl (by decide) (fun _ _ _ _ _ _ us hl => match us, hl with | [_, _, _], _ => rfl) (fun f cdv A outer s H E q hr => by have tk : L2N.Takes (L2.cxOf (L2N.CX P w) P w K mg base N__law_spots "_law_spots" (L2.defScope s__law_spots) f cdv A outer s H E) (fun cls d _ H' => E cls d H') := L2N.takes_of rfl rfl rfl rfl; have pa : PassesOwn (model P w) (L2.cxOf (L2N.CX P w) P w K mg base N__law_spots "_law_spots" (L2.defScope s__law_spots) f cdv A outer s H E).A (L2.cxOf (L2N.CX P w) P w K mg base N__law_spots "_law_spots" (L2.defScope s__law_spots) f cdv A outer s H E).env (L2.cxOf (L2N.CX P w) P w K mg base N__law_spots "_law_spots" (L2.defScope s__law_spots) f cdv A outer s H E).xe := L2.passes_of rfl; exact (FL.pssx_cons (FL.psx_own sc__law_spots.nd (i := 3) rfl (by first | exact Or.inl rfl | exact Or.inr rfl) (FL.pnx_lst FL.pax_nil)) (FL.pssx_cons (FL.psx_if (FL.PWX.pt (FL.pwx_and (FL.ptx_not (FL.ptx_tru (FL.px_var 2))) (FL.pwx_and1 (FL.ptx_cmp (L2.op_eqD (FL.hu64 hr)) FL.eq_ok (FL.px_has G__law_take (hr.mono (by decide)) tk (by rfl) (FL.pax_cons (FL.px_var 0) (FL.pax_cons FL.px_int FL.pax_nil))) FL.px_int (L2.nomark _))))) (FL.pssx_cons (FL.psx_set sc__law_spots.nd (i := 4) rfl (by first | exact Or.inl rfl | exact Or.inr rfl) (FL.px_ix (FL.px_lst (FL.pax_cons (FL.px_tup (FL.pax_cons FL.px_int (FL.pax_cons FL.px_int FL.pax_nil))) (FL.pax_cons (FL.px_tup (FL.pax_cons FL.px_int (FL.pax_cons FL.px_int FL.pax_nil))) (FL.pax_cons (FL.px_tup (FL.pax_cons FL.px_int (FL.pax_cons FL.px_int FL.pax_nil))) (FL.pax_cons (FL.px_tup (FL.pax_cons FL.px_int (FL.pax_cons (FL.px_un L2.un_neg FL.neg_ok FL.px_int) FL.pax_nil))) FL.pax_nil))))) (FL.px_has G__law_take (hr.mono (by decide)) tk (by rfl) (FL.pax_cons (FL.px_var 0) (FL.pax_cons FL.px_int FL.pax_nil))))) (FL.pssx_cons (FL.psx_for pa rfl (FL.pix_range1 (by rfl) T.n_range (FL.px_var 1)) (L2.pg_name (i := 5) sc__law_spots.nd rfl (by first | exact Or.inl rfl | exact Or.inr rfl)) (FL.tgx_n 5) (FL.pssx_cons (FL.psx_set sc__law_spots.nd (i := 6) rfl (by first | exact Or.inl rfl | exact Or.inr rfl) (FL.px_if (FL.ptx_cmp L2.op_lt FL.lt_ok (FL.px_var 5) (FL.px_bin L2.op_sub FL.sub_ok (FL.px_var 1) FL.px_int) (L2.nomark _)) (FL.px_bin FL.op_addA FL.add_ok (FL.px_bin L2.op_mulW FL.mul_ok (FL.px_var 5) FL.px_int) (FL.px_has G__law_take (hr.mono (by decide)) tk (by rfl) (FL.pax_cons (FL.px_var 0) (FL.pax_cons FL.px_int FL.pax_nil)))) (FL.px_un L2.un_neg FL.neg_ok FL.px_int))) (FL.pssx_one (FL.psx_appE 3 (FL.px_tup (FL.pax_cons (FL.px_tup (FL.pax_cons (FL.px_bin L2.op_mulW FL.mul_ok (FL.px_var 6) (FL.px_ix (FL.px_var 4) FL.px_int)) (FL.pax_cons FL.px_int FL.pax_nil))) (FL.pax_cons (FL.px_tup (FL.pax_cons (FL.px_bin L2.op_mulW FL.mul_ok (FL.px_var 6) (FL.px_ix (FL.px_var 4) FL.px_int)) (FL.pax_cons FL.px_int FL.pax_nil))) FL.pax_nil))))))) (FL.pssx_one (FL.psx_retOwn 3)))) FL.pssx_nil) (FL.pssx_cons (FL.psx_for pa rfl (FL.pix_range1 (by rfl) T.n_range (FL.px_var 1)) (L2.pg_name (i := 5) sc__law_spots.nd rfl (by first | exact Or.inl rfl | exact Or.inr rfl)) (FL.tgx_n 5) (FL.pssx_cons (FL.psx_set sc__law_spots.nd (i := 7) rfl (by first | exact Or.inl rfl | exact Or.inr rfl) (FL.px_if (FL.ptx_tru (FL.px_var 2)) (FL.px_tup (FL.pax_cons (FL.px_has G__law_coordinate (hr.mono (by decide)) tk (by rfl) (FL.pax_cons (FL.px_var 0) FL.pax_nil)) (FL.pax_cons (FL.px_has G__law_coordinate (hr.mono (by decide)) tk (by rfl) (FL.pax_cons (FL.px_var 0) FL.pax_nil)) FL.pax_nil))) (FL.px_tup (FL.pax_cons (FL.px_has G__law_near (hr.mono (by decide)) tk (by rfl) (FL.pax_cons (FL.px_var 0) FL.pax_nil)) (FL.pax_cons (FL.px_has G__law_near (hr.mono (by decide)) tk (by rfl) (FL.pax_cons (FL.px_var 0) FL.pax_nil)) FL.pax_nil))))) (FL.pssx_one (FL.psx_appE 3 (FL.px_bor (FL.px_has G__law_unlike (hr.mono (by decide)) tk (by rfl) (FL.pax_cons (FL.px_var 7) (FL.pax_cons (FL.px_var 3) FL.pax_nil)))))))) (FL.pssx_frz 3 (FL.pssx_one (FL.psx_ret (FL.px_var 3))))))))
abbrev N_is_whole : List Str := ["thing", "low", "high"]
theorem sc_is_whole : L2.FnScope N_is_whole ["thing", "low", "high"] (L2.defScope s_is_whole) := ⟨rfl, rfl, rfl, by decide +kernel, rfl, by decide +kernel, by decide +kernel⟩
def F_is_whole : List D → M D := callF 3 (sSeq (sIf (tOr (tNot (tTru (eUn (isiB [.int]) (eVar 0)))) (tTru (eUn (isiB [.bool]) (eVar 0)))) (sRet (eC (.bl false))) sNext) (sSeq (sIf (tAnd (tVal (eBin notNonD (eVar 1) (eC .non))) (tVal (eBin ltD (eVar 0) (eVar 1)))) (sRet (eC (.bl false))) sNext) (sRet (eOr (eBin isNonD (eVar 2) (eC .non)) (eBin leD (eVar 0) (eVar 2))))))
theorem has_is_whole (T : Tx K mg cm)  : FL.Has P w K mg base cm "is_whole" 2 ["thing", "low", "high"] [[.non, .non], [.non], []] [] 3 F_is_whole :=
  FL.has_ofD (dds := [.non, .non]) (dvs := [.non, .non]) T.d_is_whole sc_is_whole rfl rfl (by decide) (by simp) (by intros; simp [FL.RepL, FL.Rep]) (fun e he => by 
      rcases List.mem_cons.mp he with e | he
      · rw [e]; exact ⟨1, 0, rfl, rfl, fun T kV doc pm an cdv ct us its hl hi => match us, its, hl, hi with | [_], [_, _], _, _ => ⟨_, rfl, rfl⟩⟩
      rcases List.mem_cons.mp he with e | he
      · rw [e]; exact ⟨2, 1, rfl, rfl, fun T kV doc pm an cdv ct us its hl hi => match us, its, hl, hi with | [_, _], [_, _], _, _ => ⟨_, rfl, rfl⟩⟩
      rw [List.mem_singleton.mp he]; exact ⟨3, 2, rfl, rfl, fun T kV doc pm an cdv ct us its hl hi => match us, its, hl, hi with | [_, _, _], [_, _], _, _ => ⟨_, rfl, rfl⟩⟩) (fun e he => by cases he) (fun f cdv A outer s H E q hr => by have tk : L2N.Takes (L2.cxOf (L2N.CX P w) P w K mg base N_is_whole "is_whole" (L2.defScope s_is_whole) f cdv A outer s H E) (fun cls d _ H' => E cls d H') := L2N.takes_of rfl rfl rfl rfl; have pa : PassesOwn (model P w) (L2.cxOf (L2N.CX P w) P w K mg base N_is_whole "is_whole" (L2.defScope s_is_whole) f cdv A outer s H E).A (L2.cxOf (L2N.CX P w) P w K mg base N_is_whole "is_whole" (L2.defScope s_is_whole) f cdv A outer s H E).env (L2.cxOf (L2N.CX P w) P w K mg base N_is_whole "is_whole" (L2.defScope s_is_whole) f cdv A outer s H E).xe := L2.passes_of rfl; exact (FL.pssx_cons (FL.psx_if (FL.PWX.pt (FL.pwx_or (FL.ptx_not (FL.ptx_tru (FL.px_isi .int (by rfl) T.n_isinstance (by rfl) T.n_int FL.bt_int (FL.px_var 0)))) (FL.pwx_or1 (FL.ptx_tru (FL.px_isi .bool (by rfl) T.n_isinstance (by rfl) T.n_bool FL.bt_bool (FL.px_var 0)))))) (FL.pssx_one (FL.psx_ret FL.px_bl)) FL.pssx_nil) (FL.pssx_cons (FL.psx_if (FL.PWX.pt (FL.pwx_and (FL.ptx_cmp L2.op_notN FL.notNon_ok (FL.px_var 1) FL.px_non (L2.nomark _)) (FL.pwx_and1 (FL.ptx_cmp L2.op_lt FL.lt_ok (FL.px_var 0) (FL.px_var 1) (L2.nomark _))))) (FL.pssx_one (FL.psx_ret FL.px_bl)) FL.pssx_nil) (FL.pssx_one (FL.psx_ret (FL.px_or (FL.px_cmp L2.op_isN FL.isNon_ok (FL.px_var 2) FL.px_non (L2.nomark _)) (FL.px_one (FL.px_cmp L2.op_le FL.le_ok (FL.px_var 0) (FL.px_var 2) (L2.nomark _)))))))))
abbrev N_is_ratio : List Str := ["thing"]
theorem sc_is_ratio : L2.FnScope N_is_ratio ["thing"] (L2.defScope s_is_ratio) := ⟨rfl, rfl, rfl, by decide +kernel, rfl, by decide +kernel, by decide +kernel⟩
def F_is_ratio : List D → M D := callF 1 (sSeq (sIf (tOr (tNot (tTru (eUn (isiB [.tuple]) (eVar 0)))) (tVal (eBin neD (eCall (un1 lenD) [(eVar 0)]) (eC (.int 2))))) (sRet (eC (.bl false))) sNext) (sSeq (sIf (tOr (tNot (tTru (eCall (fun ds => F_is_whole (ds ++ [.non, .non])) [(eBin ixD (eVar 0) (eC (.int 0)))]))) (tNot (tTru (eCall (fun ds => F_is_whole (ds ++ [.non])) [(eBin ixD (eVar 0) (eC (.int 1))), (eC (.int 1))])))) (sRet (eC (.bl false))) sNext) (sRet (eBin eqD (eCall (bin2 gcdD) [(eBin ixD (eVar 0) (eC (.int 0))), (eBin ixD (eVar 0) (eC (.int 1)))]) (eC (.int 1))))))
theorem has_is_ratio (T : Tx K mg cm) (G_is_whole : FL.Has P w K mg base cm "is_whole" 2 ["thing", "low", "high"] [[.non, .non], [.non], []] [] 3 F_is_whole) : FL.Has P w K mg base cm "is_ratio" 3 ["thing"] [[]] [] 1 F_is_ratio :=
  FL.has_of T.d_is_ratio sc_is_ratio rfl rfl (by decide) (fun _ _ _ _ _ _ us hl => match us, hl with | [_], _ => rfl) (fun f cdv A outer s H E q hr => by have tk : L2N.Takes (L2.cxOf (L2N.CX P w) P w K mg base N_is_ratio "is_ratio" (L2.defScope s_is_ratio) f cdv A outer s H E) (fun cls d _ H' => E cls d H') := L2N.takes_of rfl rfl rfl rfl; have pa : PassesOwn (model P w) (L2.cxOf (L2N.CX P w) P w K mg base N_is_ratio "is_ratio" (L2.defScope s_is_ratio) f cdv A outer s H E).A (L2.cxOf (L2N.CX P w) P w K mg base N_is_ratio "is_ratio" (L2.defScope s_is_ratio) f cdv A outer s H E).env (L2.cxOf (L2N.CX P w) P w K mg base N_is_ratio "is_ratio" (L2.defScope s_is_ratio) f cdv A outer s H E).xe := L2.passes_of rfl; exact (FL.pssx_cons (FL.psx_if (FL.PWX.pt (FL.pwx_or (FL.ptx_not (FL.ptx_tru (FL.px_isi .tuple (by rfl) T.n_isinstance (by rfl) T.n_tuple FL.bt_tuple (FL.px_var 0)))) (FL.pwx_or1 (FL.ptx_cmp (L2.op_neD (FL.hu64 hr)) FL.ne_ok (FL.px_callB L2.call_len FL.len_ok (by rfl) T.n_len FL.bt_len (FL.pax_cons (FL.px_var 0) FL.pax_nil)) FL.px_int (L2.nomark _))))) (FL.pssx_one (FL.psx_ret FL.px_bl)) FL.pssx_nil) (FL.pssx_cons (FL.psx_if (FL.PWX.pt (FL.pwx_or (FL.ptx_not (FL.ptx_tru (FL.px_hasD [.non, .non] G_is_whole (hr.mono (by decide)) tk (by rfl) (FL.pax_cons (FL.px_ix (FL.px_var 0) FL.px_int) FL.pax_nil)))) (FL.pwx_or1 (FL.ptx_not (FL.ptx_tru (FL.px_hasD [.non] G_is_whole (hr.mono (by decide)) tk (by rfl) (FL.pax_cons (FL.px_ix (FL.px_var 0) FL.px_int) (FL.pax_cons FL.px_int FL.pax_nil)))))))) (FL.pssx_one (FL.psx_ret FL.px_bl)) FL.pssx_nil) (FL.pssx_one (FL.psx_ret (FL.px_cmp (L2.op_eqD (FL.hu64 hr)) FL.eq_ok (FL.px_callF L2.cr_gcd FL.gcd_ok (by rfl) T.g_gcd (FL.pax_cons (FL.px_ix (FL.px_var 0) FL.px_int) (FL.pax_cons (FL.px_ix (FL.px_var 0) FL.px_int) FL.pax_nil))) FL.px_int (L2.nomark _)))))))
abbrev N_is_small : List Str := ["thing"]
theorem sc_is_small : L2.FnScope N_is_small ["thing"] (L2.defScope s_is_small) := ⟨rfl, rfl, rfl, by decide +kernel, rfl, by decide +kernel, by decide +kernel⟩
def F_is_small : List D → M D := callF 1 (sRet (eAnd (eCall F_is_ratio [(eVar 0)]) (eAnd (eChain leD leD (eUn negD (eC (.int 1000000000000))) (eBin ixD (eVar 0) (eC (.int 0))) (eC (.int 1000000000000))) (eBin leD (eBin ixD (eVar 0) (eC (.int 1))) (eC (.int 1000000000000))))))
theorem has_is_small (T : Tx K mg cm) (G_is_ratio : FL.Has P w K mg base cm "is_ratio" 3 ["thing"] [[]] [] 1 F_is_ratio) : FL.Has P w K mg base cm "is_small" 4 ["thing"] [[]] [] 1 F_is_small :=
  FL.has_of T.d_is_small sc_is_small rfl rfl (by decide) (fun _ _ _ _ _ _ us hl => match us, hl with | [_], _ => rfl) (fun f cdv A outer s H E q hr => by have tk : L2N.Takes (L2.cxOf (L2N.CX P w) P w K mg base N_is_small "is_small" (L2.defScope s_is_small) f cdv A outer s H E) (fun cls d _ H' => E cls d H') := L2N.takes_of rfl rfl rfl rfl; have pa : PassesOwn (model P w) (L2.cxOf (L2N.CX P w) P w K mg base N_is_small "is_small" (L2.defScope s_is_small) f cdv A outer s H E).A (L2.cxOf (L2N.CX P w) P w K mg base N_is_small "is_small" (L2.defScope s_is_small) f cdv A outer s H E).env (L2.cxOf (L2N.CX P w) P w K mg base N_is_small "is_small" (L2.defScope s_is_small) f cdv A outer s H E).xe := L2.passes_of rfl; exact (FL.pssx_one (FL.psx_ret (FL.px_and (FL.px_has G_is_ratio (hr.mono (by decide)) tk (by rfl) (FL.pax_cons (FL.px_var 0) FL.pax_nil)) (FL.px_and (FL.px_chain L2.op_le FL.le_ok L2.op_le FL.le_ok (FL.px_un L2.un_neg FL.neg_ok (FL.px_gintE (by rfl) T.c_SMALL)) (FL.px_ix (FL.px_var 0) FL.px_int) (FL.px_gintE (by rfl) T.c_SMALL)) (FL.px_one (FL.px_cmp L2.op_le FL.le_ok (FL.px_ix (FL.px_var 0) FL.px_int) (FL.px_gintE (by rfl) T.c_SMALL) (L2.nomark _))))))))
abbrev N_is_place : List Str := ["thing"]
theorem sc_is_place : L2.FnScope N_is_place ["thing"] (L2.defScope s_is_place) := ⟨rfl, rfl, rfl, by decide +kernel, rfl, by decide +kernel, by decide +kernel⟩
def F_is_place : List D → M D := callF 1 (sSeq (sIf (tOr (tNot (tTru (eUn (isiB [.list, .tuple]) (eVar 0)))) (tVal (eBin neD (eCall (un1 lenD) [(eVar 0)]) (eC (.int 2))))) (sRet (eC (.bl false))) sNext) (sRet (eAnd (eCall F_is_small [(eBin ixD (eVar 0) (eC (.int 0)))]) (eCall F_is_small [(eBin ixD (eVar 0) (eC (.int 1)))]))))
theorem has_is_place (T : Tx K mg cm) (G_is_small : FL.Has P w K mg base cm "is_small" 4 ["thing"] [[]] [] 1 F_is_small) : FL.Has P w K mg base cm "is_place" 5 ["thing"] [[]] [] 1 F_is_place :=
  FL.has_of T.d_is_place sc_is_place rfl rfl (by decide) (fun _ _ _ _ _ _ us hl => match us, hl with | [_], _ => rfl) (fun f cdv A outer s H E q hr => by have tk : L2N.Takes (L2.cxOf (L2N.CX P w) P w K mg base N_is_place "is_place" (L2.defScope s_is_place) f cdv A outer s H E) (fun cls d _ H' => E cls d H') := L2N.takes_of rfl rfl rfl rfl; have pa : PassesOwn (model P w) (L2.cxOf (L2N.CX P w) P w K mg base N_is_place "is_place" (L2.defScope s_is_place) f cdv A outer s H E).A (L2.cxOf (L2N.CX P w) P w K mg base N_is_place "is_place" (L2.defScope s_is_place) f cdv A outer s H E).env (L2.cxOf (L2N.CX P w) P w K mg base N_is_place "is_place" (L2.defScope s_is_place) f cdv A outer s H E).xe := L2.passes_of rfl; exact (FL.pssx_cons (FL.psx_if (FL.PWX.pt (FL.pwx_or (FL.ptx_not (FL.ptx_tru (FL.px_isi2 .list .tuple (by rfl) T.n_isinstance (by rfl) T.n_list FL.bt_list (by rfl) T.n_tuple FL.bt_tuple (FL.px_var 0)))) (FL.pwx_or1 (FL.ptx_cmp (L2.op_neD (FL.hu64 hr)) FL.ne_ok (FL.px_callB L2.call_len FL.len_ok (by rfl) T.n_len FL.bt_len (FL.pax_cons (FL.px_var 0) FL.pax_nil)) FL.px_int (L2.nomark _))))) (FL.pssx_one (FL.psx_ret FL.px_bl)) FL.pssx_nil) (FL.pssx_one (FL.psx_ret (FL.px_and (FL.px_has G_is_small (hr.mono (by decide)) tk (by rfl) (FL.pax_cons (FL.px_ix (FL.px_var 0) FL.px_int) FL.pax_nil)) (FL.px_one (FL.px_has G_is_small (hr.mono (by decide)) tk (by rfl) (FL.pax_cons (FL.px_ix (FL.px_var 0) FL.px_int) FL.pax_nil))))))))
abbrev N_check_places : List Str := ["places", "known", "index", "place", "couple"]
theorem sc_check_places : L2.FnScope N_check_places ["places"] (L2.defScope s_check_places) := ⟨rfl, rfl, rfl, by decide +kernel, rfl, by decide +kernel, by decide +kernel⟩
def B_check_places_0 : SF := (sSeq (sIf (tNot (tTru (eCall F_is_place [(eVar 3)]))) (sRaise 2 ["index", "what"] [(eVar 2), (eC (.str "place"))]) sNext) (sSeq (sSet 4 (eTup [(eBin ixD (eVar 3) (eC (.int 0))), (eBin ixD (eVar 3) (eC (.int 1)))])) (sSeq (sIf (tBor (tVal (eBin inD (eVar 4) (eVar 1)))) (sRaise 2 ["index", "what"] [(eVar 2), (eC (.str "twice"))]) sNext) (sApp 1 (eVar 4)))))
theorem B_check_places_0_w {ρ : FL.Env} {w : Wd} : B_check_places_0 ρ w = (sSeq (sIf (tNot (tTru (eCall F_is_place [(eVar 3)]))) (sRaise 2 ["index", "what"] [(eVar 2), (eC (.str "place"))]) sNext) (sSeq (sSet 4 (eTup [(eBin ixD (eVar 3) (eC (.int 0))), (eBin ixD (eVar 3) (eC (.int 1)))])) (sSeq (sIf (tBor (tVal (eBin inD (eVar 4) (eVar 1)))) (sRaise 2 ["index", "what"] [(eVar 2), (eC (.str "twice"))]) sNext) (sApp 1 (eVar 4))))) ρ w := rfl
def F_check_places : List D → M D := callF 5 (sSeq (sIf (tOr (tNot (tTru (eUn (isiB [.list, .tuple]) (eVar 0)))) (tNot (tVal (eChain leD leD (eC (.int 2)) (eCall (un1 lenD) [(eVar 0)]) (eC (.int 6)))))) (sRaise 2 ["index", "what"] [(eC (.int 0)), (eC (.str "many"))]) sNext) (sSeq (sOwn 1 (evs [])) (sSeq (sFor (iEnum (eVar 0)) (gT [2, 3]) B_check_places_0) (sSeq (sFrz 1) (sRet (eCall (un1 tupD) [(eVar 1)]))))))
theorem has_check_places (T : Tx K mg cm) (G_is_place : FL.Has P w K mg base cm "is_place" 5 ["thing"] [[]] [] 1 F_is_place) : FL.Has P w K mg base cm "check_places" 6 ["places"] [[]] [] 1 F_check_places :=
  FL.has_of T.d_check_places sc_check_places rfl rfl (by decide) (fun _ _ _ _ _ _ us hl => match us, hl with | [_], _ => rfl) (fun f cdv A outer s H E q hr => by have tk : L2N.Takes (L2.cxOf (L2N.CX P w) P w K mg base N_check_places "check_places" (L2.defScope s_check_places) f cdv A outer s H E) (fun cls d _ H' => E cls d H') := L2N.takes_of rfl rfl rfl rfl; have pa : PassesOwn (model P w) (L2.cxOf (L2N.CX P w) P w K mg base N_check_places "check_places" (L2.defScope s_check_places) f cdv A outer s H E).A (L2.cxOf (L2N.CX P w) P w K mg base N_check_places "check_places" (L2.defScope s_check_places) f cdv A outer s H E).env (L2.cxOf (L2N.CX P w) P w K mg base N_check_places "check_places" (L2.defScope s_check_places) f cdv A outer s H E).xe := L2.passes_of rfl; exact (FL.pssx_cons (FL.psx_if (FL.PWX.pt (FL.pwx_or (FL.ptx_not (FL.ptx_tru (FL.px_isi2 .list .tuple (by rfl) T.n_isinstance (by rfl) T.n_list FL.bt_list (by rfl) T.n_tuple FL.bt_tuple (FL.px_var 0)))) (FL.pwx_or1 (FL.ptx_not (FL.ptx_chain L2.op_le FL.le_ok L2.op_le FL.le_ok FL.px_int (FL.px_callB L2.call_len FL.len_ok (by rfl) T.n_len FL.bt_len (FL.pax_cons (FL.px_var 0) FL.pax_nil)) FL.px_int))))) (FL.pssx_one (FL.psx_raiseH 2 (T.exc_2) rfl rfl tk (hr.mono (by decide)) (by rfl) (FL.pax_cons FL.px_int (FL.pax_cons FL.px_str FL.pax_nil)))) FL.pssx_nil) (FL.pssx_cons (FL.psx_own sc_check_places.nd (i := 1) rfl (by first | exact Or.inl rfl | exact Or.inr rfl) (FL.pnx_lst FL.pax_nil)) (FL.pssx_cons (FL.psx_for pa rfl (FL.pix_enum (by rfl) T.n_enumerate (FL.px_var 0)) (L2.pg_tup rfl (L2.pgs_cons (L2.pg_name (i := 2) sc_check_places.nd rfl (by first | exact Or.inl rfl | exact Or.inr rfl)) (L2.pgs_cons (L2.pg_name (i := 3) sc_check_places.nd rfl (by first | exact Or.inl rfl | exact Or.inr rfl)) L2.pgs_nil))) (FL.tgx_t [2, 3]) (FL.pssx_cons (FL.psx_if (FL.ptx_not (FL.ptx_tru (FL.px_has G_is_place (hr.mono (by decide)) tk (by rfl) (FL.pax_cons (FL.px_var 3) FL.pax_nil)))) (FL.pssx_one (FL.psx_raiseH 2 (T.exc_2) rfl rfl tk (hr.mono (by decide)) (by rfl) (FL.pax_cons (FL.px_var 2) (FL.pax_cons FL.px_str FL.pax_nil)))) FL.pssx_nil) (FL.pssx_cons (FL.psx_set sc_check_places.nd (i := 4) rfl (by first | exact Or.inl rfl | exact Or.inr rfl) (FL.px_tup (FL.pax_cons (FL.px_ix (FL.px_var 3) FL.px_int) (FL.pax_cons (FL.px_ix (FL.px_var 3) FL.px_int) FL.pax_nil)))) (FL.pssx_cons (FL.psx_if (FL.ptx_bor (FL.ptx_cmp (FL.op_inA (FL.hu65 hr)) FL.in_ok (FL.px_var 4) (FL.px_var 1) (by rfl))) (FL.pssx_one (FL.psx_raiseH 2 (T.exc_2) rfl rfl tk (hr.mono (by decide)) (by rfl) (FL.pax_cons (FL.px_var 2) (FL.pax_cons FL.px_str FL.pax_nil)))) FL.pssx_nil) (FL.pssx_one (FL.psx_appE 1 (FL.px_var 4))))))) (FL.pssx_frz 1 (FL.pssx_one (FL.psx_ret (FL.px_callTy L2.call_tuple_of FL.tuple_ok (by rfl) T.n_tuple FL.bt_tuple (FL.pax_cons (FL.px_var 1) FL.pax_nil)))))))))
abbrev N__law_try : List Str := ["places", "found", "wrong"]
theorem sc__law_try : L2.FnScope N__law_try ["places"] (L2.defScope s__law_try) := ⟨rfl, rfl, rfl, by decide +kernel, rfl, by decide +kernel, by decide +kernel⟩
def F__law_try : List D → M D := callF 3 (sSeq (sTry (sSet 1 (eCall F_check_places [(eVar 0)])) [2] [] 2 (sSet 1 (eTup [(eXf 2 "index"), (eXf 2 "what")]))) (sRet (eVar 1)))
theorem has__law_try (T : Tx K mg cm) (G_check_places : FL.Has P w K mg base cm "check_places" 6 ["places"] [[]] [] 1 F_check_places) : FL.Has P w K mg base cm "_law_try" 7 ["places"] [[]] [] 1 F__law_try :=
  FL.has_of T.d__law_try sc__law_try rfl rfl (by decide) (fun _ _ _ _ _ _ us hl => match us, hl with | [_], _ => rfl) (fun f cdv A outer s H E q hr => by have tk : L2N.Takes (L2.cxOf (L2N.CX P w) P w K mg base N__law_try "_law_try" (L2.defScope s__law_try) f cdv A outer s H E) (fun cls d _ H' => E cls d H') := L2N.takes_of rfl rfl rfl rfl; have pa : PassesOwn (model P w) (L2.cxOf (L2N.CX P w) P w K mg base N__law_try "_law_try" (L2.defScope s__law_try) f cdv A outer s H E).A (L2.cxOf (L2N.CX P w) P w K mg base N__law_try "_law_try" (L2.defScope s__law_try) f cdv A outer s H E).env (L2.cxOf (L2N.CX P w) P w K mg base N__law_try "_law_try" (L2.defScope s__law_try) f cdv A outer s H E).xe := L2.passes_of rfl; exact (FL.pssx_cons (FL.psx_try (i := 2) [2] [] rfl rfl rfl sc__law_try.nd rfl rfl ⟨by rfl, by decide, .inl T.x_2⟩ tk (fun k hk => by rw [List.mem_singleton.mp hk]; exact T.em_2_2) (fun _ z => nomatch z) (fun W pn xe tk pa => (FL.pssx_one (FL.psx_set sc__law_try.nd (i := 1) rfl (by first | exact Or.inl rfl | exact Or.inr rfl) (FL.px_has G_check_places (hr.mono (by decide)) tk (by rfl) (FL.pax_cons (FL.px_var 0) FL.pax_nil))))) (fun a oe k dd pn hk hz hf => (FL.pssx_one (FL.psx_set sc__law_try.nd (i := 1) rfl (by first | exact Or.inl rfl | exact Or.inr rfl) (FL.px_tup (FL.pax_cons (FL.px_xf (i := 2) (by rw [List.mem_singleton.mp hk]; exact T.xf_2) (by rw [List.mem_singleton.mp hk]; exact T.no_2_index) hz hf) (FL.pax_cons (FL.px_xf (i := 2) (by rw [List.mem_singleton.mp hk]; exact T.xf_2) (by rw [List.mem_singleton.mp hk]; exact T.no_2_what) hz hf) FL.pax_nil))))))) (FL.pssx_one (FL.psx_ret (FL.px_var 1)))))
abbrev N__law_arm : List Str := ["hand"]
theorem sc__law_arm : L2.FnScope N__law_arm ["hand"] (L2.defScope s__law_arm) := ⟨rfl, rfl, rfl, by decide +kernel, rfl, by decide +kernel, by decide +kernel⟩
def F__law_arm : List D → M D := callF 1 (sSeq (sIf (tTru (eCall F__law_take [(eVar 0), (eC (.int 4))])) (sRet (eCall F__law_ratio [(eBin addD (eC (.int 1)) (eCall F__law_take [(eVar 0), (eC (.int 4))])), (eBin addD (eC (.int 1)) (eCall F__law_take [(eVar 0), (eC (.int 3))]))])) sNext) (sRet (eCall F__law_ratio [(eCall F__law_bounded [(eVar 0)]), (eCall F__law_bounded [(eVar 0)])])))
theorem has__law_arm (T : Tx K mg cm) (G__law_bounded : FL.Has P w K mg base cm "_law_bounded" 4 ["hand"] [[]] [] 1 F__law_bounded) (G__law_ratio : FL.Has P w K mg base cm "_law_ratio" 3 ["top", "bottom"] [[]] [] 2 F__law_ratio) (G__law_take : FL.Has P w K mg base cm "_law_take" 3 ["hand", "many"] [[]] [] 2 F__law_take) : FL.Has P w K mg base cm "_law_arm" 5 ["hand"] [[]] [] 1 F__law_arm :=
  FL.has_of T.d__law_arm sc__law_arm rfl rfl (by decide) (fun _ _ _ _ _ _ us hl => match us, hl with | [_], _ => rfl) (fun f cdv A outer s H E q hr => by have tk : L2N.Takes (L2.cxOf (L2N.CX P w) P w K mg base N__law_arm "_law_arm" (L2.defScope s__law_arm) f cdv A outer s H E) (fun cls d _ H' => E cls d H') := L2N.takes_of rfl rfl rfl rfl; have pa : PassesOwn (model P w) (L2.cxOf (L2N.CX P w) P w K mg base N__law_arm "_law_arm" (L2.defScope s__law_arm) f cdv A outer s H E).A (L2.cxOf (L2N.CX P w) P w K mg base N__law_arm "_law_arm" (L2.defScope s__law_arm) f cdv A outer s H E).env (L2.cxOf (L2N.CX P w) P w K mg base N__law_arm "_law_arm" (L2.defScope s__law_arm) f cdv A outer s H E).xe := L2.passes_of rfl; exact (FL.pssx_cons (FL.psx_if (FL.ptx_tru (FL.px_has G__law_take (hr.mono (by decide)) tk (by rfl) (FL.pax_cons (FL.px_var 0) (FL.pax_cons FL.px_int FL.pax_nil)))) (FL.pssx_one (FL.psx_ret (FL.px_has G__law_ratio (hr.mono (by decide)) tk (by rfl) (FL.pax_cons (FL.px_bin FL.op_addA FL.add_ok FL.px_int (FL.px_has G__law_take (hr.mono (by decide)) tk (by rfl) (FL.pax_cons (FL.px_var 0) (FL.pax_cons FL.px_int FL.pax_nil)))) (FL.pax_cons (FL.px_bin FL.op_addA FL.add_ok FL.px_int (FL.px_has G__law_take (hr.mono (by decide)) tk (by rfl) (FL.pax_cons (FL.px_var 0) (FL.pax_cons FL.px_int FL.pax_nil)))) FL.pax_nil))))) FL.pssx_nil) (FL.pssx_one (FL.psx_ret (FL.px_has G__law_ratio (hr.mono (by decide)) tk (by rfl) (FL.pax_cons (FL.px_has G__law_bounded (hr.mono (by decide)) tk (by rfl) (FL.pax_cons (FL.px_var 0) FL.pax_nil)) (FL.pax_cons (FL.px_has G__law_bounded (hr.mono (by decide)) tk (by rfl) (FL.pax_cons (FL.px_var 0) FL.pax_nil)) FL.pax_nil)))))))
abbrev N__law_odd : List Str := ["hand", "place", "kind"]
theorem sc__law_odd : L2.FnScope N__law_odd ["hand", "place"] (L2.defScope s__law_odd) := ⟨rfl, rfl, rfl, by decide +kernel, rfl, by decide +kernel, by decide +kernel⟩
def F__law_odd : List D → M D := callF 3 (sSeq (sSet 2 (eCall F__law_take [(eVar 0), (eC (.int 6))])) (sSeq (sIf (tVal (eBin eqD (eVar 2) (eC (.int 0)))) (sRet (eTup [(eBin ixD (eVar 1) (eC (.int 0)))])) sNext) (sSeq (sIf (tVal (eBin eqD (eVar 2) (eC (.int 1)))) (sRet (eTup [(eBin ixD (eVar 1) (eC (.int 0))), (eBin ixD (eVar 1) (eC (.int 1))), (eBin ixD (eVar 1) (eC (.int 0)))])) sNext) (sSeq (sIf (tVal (eBin eqD (eVar 2) (eC (.int 2)))) (sRet (eTup [(eBin ixD (eVar 1) (eC (.int 0))), (eCall (un1 listD) [(eBin ixD (eVar 1) (eC (.int 1)))])])) sNext) (sSeq (sIf (tVal (eBin eqD (eVar 2) (eC (.int 3)))) (sRet (eTup [(eBin ixD (eVar 1) (eC (.int 0))), (eTup [(eBin addD (eBin powD (eC (.int 10)) (eC (.int 12))) (eC (.int 1))), (eC (.int 1))])])) sNext) (sSeq (sIf (tVal (eBin eqD (eVar 2) (eC (.int 4)))) (sRet (eLst [(eTup [(eC (.int 1)), (eBin addD (eBin powD (eC (.int 10)) (eC (.int 12))) (eC (.int 1)))]), (eBin ixD (eVar 1) (eC (.int 1)))])) sNext) (sRet (eBin ixD (eLst [(eC .non), (eC (.int 4)), (eTup [(eC (.int 3)), (eC (.int 4))]), (eTup [(eTup [(eC (.int 2)), (eC (.int 4))]), (eTup [(eC (.int 1)), (eC (.int 1))])]), (eC (.str "ab"))]) (eCall F__law_take [(eVar 0), (eC (.int 5))])))))))))
theorem has__law_odd (T : Tx K mg cm) (G__law_take : FL.Has P w K mg base cm "_law_take" 3 ["hand", "many"] [[]] [] 2 F__law_take) : FL.Has P w K mg base cm "_law_odd" 4 ["hand", "place"] [[]] [] 2 F__law_odd :=
  FL.has_of T.d__law_odd sc__law_odd rfl rfl (by decide) (fun _ _ _ _ _ _ us hl => match us, hl with | [_, _], _ => rfl) (fun f cdv A outer s H E q hr => by have tk : L2N.Takes (L2.cxOf (L2N.CX P w) P w K mg base N__law_odd "_law_odd" (L2.defScope s__law_odd) f cdv A outer s H E) (fun cls d _ H' => E cls d H') := L2N.takes_of rfl rfl rfl rfl; have pa : PassesOwn (model P w) (L2.cxOf (L2N.CX P w) P w K mg base N__law_odd "_law_odd" (L2.defScope s__law_odd) f cdv A outer s H E).A (L2.cxOf (L2N.CX P w) P w K mg base N__law_odd "_law_odd" (L2.defScope s__law_odd) f cdv A outer s H E).env (L2.cxOf (L2N.CX P w) P w K mg base N__law_odd "_law_odd" (L2.defScope s__law_odd) f cdv A outer s H E).xe := L2.passes_of rfl; exact (FL.pssx_cons (FL.psx_set sc__law_odd.nd (i := 2) rfl (by first | exact Or.inl rfl | exact Or.inr rfl) (FL.px_has G__law_take (hr.mono (by decide)) tk (by rfl) (FL.pax_cons (FL.px_var 0) (FL.pax_cons FL.px_int FL.pax_nil)))) (FL.pssx_cons (FL.psx_if (FL.ptx_cmp (L2.op_eqD (FL.hu64 hr)) FL.eq_ok (FL.px_var 2) FL.px_int (L2.nomark _)) (FL.pssx_one (FL.psx_ret (FL.px_tup (FL.pax_cons (FL.px_ix (FL.px_var 1) FL.px_int) FL.pax_nil)))) FL.pssx_nil) (FL.pssx_cons (FL.psx_if (FL.ptx_cmp (L2.op_eqD (FL.hu64 hr)) FL.eq_ok (FL.px_var 2) FL.px_int (L2.nomark _)) (FL.pssx_one (FL.psx_ret (FL.px_tup (FL.pax_cons (FL.px_ix (FL.px_var 1) FL.px_int) (FL.pax_cons (FL.px_ix (FL.px_var 1) FL.px_int) (FL.pax_cons (FL.px_ix (FL.px_var 1) FL.px_int) FL.pax_nil)))))) FL.pssx_nil) (FL.pssx_cons (FL.psx_if (FL.ptx_cmp (L2.op_eqD (FL.hu64 hr)) FL.eq_ok (FL.px_var 2) FL.px_int (L2.nomark _)) (FL.pssx_one (FL.psx_ret (FL.px_tup (FL.pax_cons (FL.px_ix (FL.px_var 1) FL.px_int) (FL.pax_cons (FL.px_callTy L2.call_list_of FL.list_ok (by rfl) T.n_list FL.bt_list (FL.pax_cons (FL.px_ix (FL.px_var 1) FL.px_int) FL.pax_nil)) FL.pax_nil))))) FL.pssx_nil) (FL.pssx_cons (FL.psx_if (FL.ptx_cmp (L2.op_eqD (FL.hu64 hr)) FL.eq_ok (FL.px_var 2) FL.px_int (L2.nomark _)) (FL.pssx_one (FL.psx_ret (FL.px_tup (FL.pax_cons (FL.px_ix (FL.px_var 1) FL.px_int) (FL.pax_cons (FL.px_tup (FL.pax_cons (FL.px_bin FL.op_addA FL.add_ok (FL.px_bin L2.op_pow FL.pow_ok FL.px_int FL.px_int) FL.px_int) (FL.pax_cons FL.px_int FL.pax_nil))) FL.pax_nil))))) FL.pssx_nil) (FL.pssx_cons (FL.psx_if (FL.ptx_cmp (L2.op_eqD (FL.hu64 hr)) FL.eq_ok (FL.px_var 2) FL.px_int (L2.nomark _)) (FL.pssx_one (FL.psx_ret (FL.px_lst (FL.pax_cons (FL.px_tup (FL.pax_cons FL.px_int (FL.pax_cons (FL.px_bin FL.op_addA FL.add_ok (FL.px_bin L2.op_pow FL.pow_ok FL.px_int FL.px_int) FL.px_int) FL.pax_nil))) (FL.pax_cons (FL.px_ix (FL.px_var 1) FL.px_int) FL.pax_nil))))) FL.pssx_nil) (FL.pssx_one (FL.psx_ret (FL.px_ix (FL.px_lst (FL.pax_cons FL.px_non (FL.pax_cons FL.px_int (FL.pax_cons (FL.px_tup (FL.pax_cons FL.px_int (FL.pax_cons FL.px_int FL.pax_nil))) (FL.pax_cons (FL.px_tup (FL.pax_cons (FL.px_tup (FL.pax_cons FL.px_int (FL.pax_cons FL.px_int FL.pax_nil))) (FL.pax_cons (FL.px_tup (FL.pax_cons FL.px_int (FL.pax_cons FL.px_int FL.pax_nil))) FL.pax_nil))) (FL.pax_cons FL.px_str FL.pax_nil)))))) (FL.px_has G__law_take (hr.mono (by decide)) tk (by rfl) (FL.pax_cons (FL.px_var 0) (FL.pax_cons FL.px_int FL.pax_nil)))))))))))))
abbrev N__law_due : List Str := ["places", "known", "at"]
theorem sc__law_due : L2.FnScope N__law_due ["places"] (L2.defScope s__law_due) := ⟨rfl, rfl, rfl, by decide +kernel, rfl, by decide +kernel, by decide +kernel⟩
def B__law_due_0 : SF := (sSeq (sIf (tTru (eBin ixD (eBin ixD (eVar 0) (eVar 2)) (eC (.int 0)))) (sRet (eTup [(eVar 2), (eC (.str "place"))])) sNext) (sSeq (sIf (tBor (tVal (eBin inD (eBin ixD (eBin ixD (eVar 0) (eVar 2)) (eC (.int 1))) (eVar 1)))) (sRet (eTup [(eVar 2), (eC (.str "twice"))])) sNext) (sApp 1 (eBin ixD (eBin ixD (eVar 0) (eVar 2)) (eC (.int 1))))))
theorem B__law_due_0_w {ρ : FL.Env} {w : Wd} : B__law_due_0 ρ w = (sSeq (sIf (tTru (eBin ixD (eBin ixD (eVar 0) (eVar 2)) (eC (.int 0)))) (sRet (eTup [(eVar 2), (eC (.str "place"))])) sNext) (sSeq (sIf (tBor (tVal (eBin inD (eBin ixD (eBin ixD (eVar 0) (eVar 2)) (eC (.int 1))) (eVar 1)))) (sRet (eTup [(eVar 2), (eC (.str "twice"))])) sNext) (sApp 1 (eBin ixD (eBin ixD (eVar 0) (eVar 2)) (eC (.int 1)))))) ρ w := rfl
def F__law_due : List D → M D := callF 3 (sSeq (sIf (tNot (tVal (eChain leD leD (eC (.int 2)) (eCall (un1 lenD) [(eVar 0)]) (eC (.int 6))))) (sRet (eTup [(eC (.int 0)), (eC (.str "many"))])) sNext) (sSeq (sOwn 1 (evs [])) (sSeq (sFor (iRng (eC (.int 0)) (eCall (un1 lenD) [(eVar 0)])) (gN 2) B__law_due_0) (sSeq (sFrz 1) (sRet (eCall (un1 tupD) [(eVar 1)]))))))
theorem has__law_due (T : Tx K mg cm)  : FL.Has P w K mg base cm "_law_due" 2 ["places"] [[]] [] 1 F__law_due :=
  FL.has_of T.d__law_due sc__law_due rfl rfl (by decide) (fun _ _ _ _ _ _ us hl => match us, hl with | [_], _ => rfl) (fun f cdv A outer s H E q hr => by have tk : L2N.Takes (L2.cxOf (L2N.CX P w) P w K mg base N__law_due "_law_due" (L2.defScope s__law_due) f cdv A outer s H E) (fun cls d _ H' => E cls d H') := L2N.takes_of rfl rfl rfl rfl; have pa : PassesOwn (model P w) (L2.cxOf (L2N.CX P w) P w K mg base N__law_due "_law_due" (L2.defScope s__law_due) f cdv A outer s H E).A (L2.cxOf (L2N.CX P w) P w K mg base N__law_due "_law_due" (L2.defScope s__law_due) f cdv A outer s H E).env (L2.cxOf (L2N.CX P w) P w K mg base N__law_due "_law_due" (L2.defScope s__law_due) f cdv A outer s H E).xe := L2.passes_of rfl; exact (FL.pssx_cons (FL.psx_if (FL.ptx_not (FL.ptx_chain L2.op_le FL.le_ok L2.op_le FL.le_ok FL.px_int (FL.px_callB L2.call_len FL.len_ok (by rfl) T.n_len FL.bt_len (FL.pax_cons (FL.px_var 0) FL.pax_nil)) FL.px_int)) (FL.pssx_one (FL.psx_ret (FL.px_tup (FL.pax_cons FL.px_int (FL.pax_cons FL.px_str FL.pax_nil))))) FL.pssx_nil) (FL.pssx_cons (FL.psx_own sc__law_due.nd (i := 1) rfl (by first | exact Or.inl rfl | exact Or.inr rfl) (FL.pnx_lst FL.pax_nil)) (FL.pssx_cons (FL.psx_for pa rfl (FL.pix_range1 (by rfl) T.n_range (FL.px_callB L2.call_len FL.len_ok (by rfl) T.n_len FL.bt_len (FL.pax_cons (FL.px_var 0) FL.pax_nil))) (L2.pg_name (i := 2) sc__law_due.nd rfl (by first | exact Or.inl rfl | exact Or.inr rfl)) (FL.tgx_n 2) (FL.pssx_cons (FL.psx_if (FL.ptx_tru (FL.px_ix (FL.px_ix (FL.px_var 0) (FL.px_var 2)) FL.px_int)) (FL.pssx_one (FL.psx_ret (FL.px_tup (FL.pax_cons (FL.px_var 2) (FL.pax_cons FL.px_str FL.pax_nil))))) FL.pssx_nil) (FL.pssx_cons (FL.psx_if (FL.ptx_bor (FL.ptx_cmp (FL.op_inA (FL.hu65 hr)) FL.in_ok (FL.px_ix (FL.px_ix (FL.px_var 0) (FL.px_var 2)) FL.px_int) (FL.px_var 1) (by rfl))) (FL.pssx_one (FL.psx_ret (FL.px_tup (FL.pax_cons (FL.px_var 2) (FL.pax_cons FL.px_str FL.pax_nil))))) FL.pssx_nil) (FL.pssx_one (FL.psx_appE 1 (FL.px_ix (FL.px_ix (FL.px_var 0) (FL.px_var 2)) FL.px_int)))))) (FL.pssx_frz 1 (FL.pssx_one (FL.psx_ret (FL.px_callTy L2.call_tuple_of FL.tuple_ok (by rfl) T.n_tuple FL.bt_tuple (FL.pax_cons (FL.px_var 1) FL.pax_nil)))))))))
abbrev N__law_tuples : List Str := ["thing", "item"]
theorem sc__law_tuples : L2.FnScope N__law_tuples ["thing"] (L2.defScope s__law_tuples) := ⟨rfl, rfl, rfl, by decide +kernel, rfl, by decide +kernel, by decide +kernel⟩
def F__law_tuples : Nat → List D → M D
  | 0 => fun _ => M.fail
  | n + 1 => callF 2 (sSeq (sIf (tTru (eUn (isiB [.tuple]) (eVar 0))) (sRet (eNot (tTru (eNew (nLc (iSeq (eVar 0)) [1] (gN 1) (tNot (tTru (eCall (F__law_tuples n) [(eVar 1)]))) (eC (.int 1))))))) sNext) (sRet (eAnd (eUn (isiB [.int]) (eVar 0)) (eNot (tTru (eUn (isiB [.bool]) (eVar 0)))))))
theorem has__law_tuples (T : Tx K mg cm)  : ∀ n, FL.Has P w K mg base cm "_law_tuples" (n + 2) ["thing"] [[]] [] 1 (F__law_tuples n)
  | 0 => FL.has_no T.d__law_tuples rfl (fun _ _ _ _ _ _ us hl => match us, hl with | [_], _ => rfl)
  | n + 1 => by have ih := has__law_tuples T  n; exact FL.has_of T.d__law_tuples sc__law_tuples rfl rfl (by decide) (fun _ _ _ _ _ _ us hl => match us, hl with | [_], _ => rfl) (fun f cdv A outer s H E q hr => by have tk : L2N.Takes (L2.cxOf (L2N.CX P w) P w K mg base N__law_tuples "_law_tuples" (L2.defScope s__law_tuples) f cdv A outer s H E) (fun cls d _ H' => E cls d H') := L2N.takes_of rfl rfl rfl rfl; have pa : PassesOwn (model P w) (L2.cxOf (L2N.CX P w) P w K mg base N__law_tuples "_law_tuples" (L2.defScope s__law_tuples) f cdv A outer s H E).A (L2.cxOf (L2N.CX P w) P w K mg base N__law_tuples "_law_tuples" (L2.defScope s__law_tuples) f cdv A outer s H E).env (L2.cxOf (L2N.CX P w) P w K mg base N__law_tuples "_law_tuples" (L2.defScope s__law_tuples) f cdv A outer s H E).xe := L2.passes_of rfl; exact (FL.pssx_cons (FL.psx_if (FL.ptx_tru (FL.px_isi .tuple (by rfl) T.n_isinstance (by rfl) T.n_tuple FL.bt_tuple (FL.px_var 0))) (FL.pssx_one (FL.psx_ret (FL.px_not (FL.px_new (FL.pnx_lcE (own := [("item", 1)]) rfl sc__law_tuples.nd (FL.pix_any (FL.px_var 0)) (L2.blkOk_by (N := N__law_tuples) (sc := L2.defScope s__law_tuples) (by decide +kernel)) rfl (fun _ _ _ _ _ => (L2.pg_name (i := 1) sc__law_tuples.nd rfl (by first | exact Or.inl rfl | exact Or.inr rfl))) (FL.tgx_n 1) (fun _ _ _ _ _ => (FL.ptsx1 (FL.ptx_not (FL.ptx_tru (FL.px_has ih hr FL.takes0N (by rfl) (FL.pax_cons (FL.px_var 1) FL.pax_nil)))))) (fun _ _ _ _ _ => FL.px_int)))))) FL.pssx_nil) (FL.pssx_one (FL.psx_ret (FL.px_and (FL.px_isi .int (by rfl) T.n_isinstance (by rfl) T.n_int FL.bt_int (FL.px_var 0)) (FL.px_one (FL.px_not (FL.px_isi .bool (by rfl) T.n_isinstance (by rfl) T.n_bool FL.bt_bool (FL.px_var 0)))))))))
abbrev N__lowest : List Str := ["top", "bottom", "part"]
theorem sc__lowest : L2.FnScope N__lowest ["top", "bottom"] (L2.defScope s__lowest) := ⟨rfl, rfl, rfl, by decide +kernel, rfl, by decide +kernel, by decide +kernel⟩
def F__lowest : List D → M D := callF 3 (sSeq (sIf (tVal (eBin ltD (eVar 1) (eC (.int 0)))) (sSeq (sSet 0 (eUn negD (eVar 0))) (sSet 1 (eUn negD (eVar 1)))) sNext) (sSeq (sSet 2 (eCall (bin2 gcdD) [(eVar 0), (eVar 1)])) (sRet (eTup [(eBin fdivD (eVar 0) (eVar 2)), (eBin fdivD (eVar 1) (eVar 2))]))))
theorem has__lowest (T : Tx K mg cm)  : FL.Has P w K mg base cm "_lowest" 2 ["top", "bottom"] [[]] [] 2 F__lowest :=
  FL.has_of T.d__lowest sc__lowest rfl rfl (by decide) (fun _ _ _ _ _ _ us hl => match us, hl with | [_, _], _ => rfl) (fun f cdv A outer s H E q hr => by have tk : L2N.Takes (L2.cxOf (L2N.CX P w) P w K mg base N__lowest "_lowest" (L2.defScope s__lowest) f cdv A outer s H E) (fun cls d _ H' => E cls d H') := L2N.takes_of rfl rfl rfl rfl; have pa : PassesOwn (model P w) (L2.cxOf (L2N.CX P w) P w K mg base N__lowest "_lowest" (L2.defScope s__lowest) f cdv A outer s H E).A (L2.cxOf (L2N.CX P w) P w K mg base N__lowest "_lowest" (L2.defScope s__lowest) f cdv A outer s H E).env (L2.cxOf (L2N.CX P w) P w K mg base N__lowest "_lowest" (L2.defScope s__lowest) f cdv A outer s H E).xe := L2.passes_of rfl; exact (FL.pssx_cons (FL.psx_if (FL.ptx_cmp L2.op_lt FL.lt_ok (FL.px_var 1) FL.px_int (L2.nomark _)) (FL.pssx_cons (FL.psx_set sc__lowest.nd (i := 0) rfl (by first | exact Or.inl rfl | exact Or.inr rfl) (FL.px_un L2.un_neg FL.neg_ok (FL.px_var 0))) (FL.pssx_one (FL.psx_set sc__lowest.nd (i := 1) rfl (by first | exact Or.inl rfl | exact Or.inr rfl) (FL.px_un L2.un_neg FL.neg_ok (FL.px_var 1))))) FL.pssx_nil) (FL.pssx_cons (FL.psx_set sc__lowest.nd (i := 2) rfl (by first | exact Or.inl rfl | exact Or.inr rfl) (FL.px_callF L2.cr_gcd FL.gcd_ok (by rfl) T.g_gcd (FL.pax_cons (FL.px_var 0) (FL.pax_cons (FL.px_var 1) FL.pax_nil)))) (FL.pssx_one (FL.psx_ret (FL.px_tup (FL.pax_cons (FL.px_bin FL.op_fdivZ FL.fdiv_ok (FL.px_var 0) (FL.px_var 2)) (FL.pax_cons (FL.px_bin FL.op_fdivZ FL.fdiv_ok (FL.px_var 1) (FL.px_var 2)) FL.pax_nil))))))))
abbrev N_plus : List Str := ["one", "two"]
theorem sc_plus : L2.FnScope N_plus ["one", "two"] (L2.defScope s_plus) := ⟨rfl, rfl, rfl, by decide +kernel, rfl, by decide +kernel, by decide +kernel⟩
def F_plus : List D → M D := callF 2 (sRet (eCall F__lowest [(eBin addD (eBin mulD (eBin ixD (eVar 0) (eC (.int 0))) (eBin ixD (eVar 1) (eC (.int 1)))) (eBin mulD (eBin ixD (eVar 1) (eC (.int 0))) (eBin ixD (eVar 0) (eC (.int 1))))), (eBin mulD (eBin ixD (eVar 0) (eC (.int 1))) (eBin ixD (eVar 1) (eC (.int 1))))]))
theorem has_plus (T : Tx K mg cm) (G__lowest : FL.Has P w K mg base cm "_lowest" 2 ["top", "bottom"] [[]] [] 2 F__lowest) : FL.Has P w K mg base cm "plus" 3 ["one", "two"] [[]] [] 2 F_plus :=
  FL.has_of T.d_plus sc_plus rfl rfl (by decide) (fun _ _ _ _ _ _ us hl => match us, hl with | [_, _], _ => rfl) (fun f cdv A outer s H E q hr => by have tk : L2N.Takes (L2.cxOf (L2N.CX P w) P w K mg base N_plus "plus" (L2.defScope s_plus) f cdv A outer s H E) (fun cls d _ H' => E cls d H') := L2N.takes_of rfl rfl rfl rfl; have pa : PassesOwn (model P w) (L2.cxOf (L2N.CX P w) P w K mg base N_plus "plus" (L2.defScope s_plus) f cdv A outer s H E).A (L2.cxOf (L2N.CX P w) P w K mg base N_plus "plus" (L2.defScope s_plus) f cdv A outer s H E).env (L2.cxOf (L2N.CX P w) P w K mg base N_plus "plus" (L2.defScope s_plus) f cdv A outer s H E).xe := L2.passes_of rfl; exact (FL.pssx_one (FL.psx_ret (FL.px_has G__lowest (hr.mono (by decide)) tk (by rfl) (FL.pax_cons (FL.px_bin FL.op_addA FL.add_ok (FL.px_bin L2.op_mulW FL.mul_ok (FL.px_ix (FL.px_var 0) FL.px_int) (FL.px_ix (FL.px_var 1) FL.px_int)) (FL.px_bin L2.op_mulW FL.mul_ok (FL.px_ix (FL.px_var 1) FL.px_int) (FL.px_ix (FL.px_var 0) FL.px_int))) (FL.pax_cons (FL.px_bin L2.op_mulW FL.mul_ok (FL.px_ix (FL.px_var 0) FL.px_int) (FL.px_ix (FL.px_var 1) FL.px_int)) FL.pax_nil))))))
abbrev N_shift_place : List Str := ["place", "by"]
theorem sc_shift_place : L2.FnScope N_shift_place ["place", "by"] (L2.defScope s_shift_place) := ⟨rfl, rfl, rfl, by decide +kernel, rfl, by decide +kernel, by decide +kernel⟩
def F_shift_place : List D → M D := callF 2 (sRet (eTup [(eCall F_plus [(eBin ixD (eVar 0) (eC (.int 0))), (eBin ixD (eVar 1) (eC (.int 0)))]), (eCall F_plus [(eBin ixD (eVar 0) (eC (.int 1))), (eBin ixD (eVar 1) (eC (.int 1)))])]))
theorem has_shift_place (T : Tx K mg cm) (G_plus : FL.Has P w K mg base cm "plus" 3 ["one", "two"] [[]] [] 2 F_plus) : FL.Has P w K mg base cm "shift_place" 4 ["place", "by"] [[]] [] 2 F_shift_place :=
  FL.has_of T.d_shift_place sc_shift_place rfl rfl (by decide) (fun _ _ _ _ _ _ us hl => match us, hl with | [_, _], _ => rfl) (fun f cdv A outer s H E q hr => by have tk : L2N.Takes (L2.cxOf (L2N.CX P w) P w K mg base N_shift_place "shift_place" (L2.defScope s_shift_place) f cdv A outer s H E) (fun cls d _ H' => E cls d H') := L2N.takes_of rfl rfl rfl rfl; have pa : PassesOwn (model P w) (L2.cxOf (L2N.CX P w) P w K mg base N_shift_place "shift_place" (L2.defScope s_shift_place) f cdv A outer s H E).A (L2.cxOf (L2N.CX P w) P w K mg base N_shift_place "shift_place" (L2.defScope s_shift_place) f cdv A outer s H E).env (L2.cxOf (L2N.CX P w) P w K mg base N_shift_place "shift_place" (L2.defScope s_shift_place) f cdv A outer s H E).xe := L2.passes_of rfl; exact (FL.pssx_one (FL.psx_ret (FL.px_tup (FL.pax_cons (FL.px_has G_plus (hr.mono (by decide)) tk (by rfl) (FL.pax_cons (FL.px_ix (FL.px_var 0) FL.px_int) (FL.pax_cons (FL.px_ix (FL.px_var 1) FL.px_int) FL.pax_nil))) (FL.pax_cons (FL.px_has G_plus (hr.mono (by decide)) tk (by rfl) (FL.pax_cons (FL.px_ix (FL.px_var 0) FL.px_int) (FL.pax_cons (FL.px_ix (FL.px_var 1) FL.px_int) FL.pax_nil))) FL.pax_nil))))))
abbrev N_times : List Str := ["one", "two"]
theorem sc_times : L2.FnScope N_times ["one", "two"] (L2.defScope s_times) := ⟨rfl, rfl, rfl, by decide +kernel, rfl, by decide +kernel, by decide +kernel⟩
def F_times : List D → M D := callF 2 (sRet (eCall F__lowest [(eBin mulD (eBin ixD (eVar 0) (eC (.int 0))) (eBin ixD (eVar 1) (eC (.int 0)))), (eBin mulD (eBin ixD (eVar 0) (eC (.int 1))) (eBin ixD (eVar 1) (eC (.int 1))))]))
theorem has_times (T : Tx K mg cm) (G__lowest : FL.Has P w K mg base cm "_lowest" 2 ["top", "bottom"] [[]] [] 2 F__lowest) : FL.Has P w K mg base cm "times" 3 ["one", "two"] [[]] [] 2 F_times :=
  FL.has_of T.d_times sc_times rfl rfl (by decide) (fun _ _ _ _ _ _ us hl => match us, hl with | [_, _], _ => rfl) (fun f cdv A outer s H E q hr => by have tk : L2N.Takes (L2.cxOf (L2N.CX P w) P w K mg base N_times "times" (L2.defScope s_times) f cdv A outer s H E) (fun cls d _ H' => E cls d H') := L2N.takes_of rfl rfl rfl rfl; have pa : PassesOwn (model P w) (L2.cxOf (L2N.CX P w) P w K mg base N_times "times" (L2.defScope s_times) f cdv A outer s H E).A (L2.cxOf (L2N.CX P w) P w K mg base N_times "times" (L2.defScope s_times) f cdv A outer s H E).env (L2.cxOf (L2N.CX P w) P w K mg base N_times "times" (L2.defScope s_times) f cdv A outer s H E).xe := L2.passes_of rfl; exact (FL.pssx_one (FL.psx_ret (FL.px_has G__lowest (hr.mono (by decide)) tk (by rfl) (FL.pax_cons (FL.px_bin L2.op_mulW FL.mul_ok (FL.px_ix (FL.px_var 0) FL.px_int) (FL.px_ix (FL.px_var 1) FL.px_int)) (FL.pax_cons (FL.px_bin L2.op_mulW FL.mul_ok (FL.px_ix (FL.px_var 0) FL.px_int) (FL.px_ix (FL.px_var 1) FL.px_int)) FL.pax_nil))))))
abbrev N_stretch_place : List Str := ["place", "size"]
theorem sc_stretch_place : L2.FnScope N_stretch_place ["place", "size"] (L2.defScope s_stretch_place) := ⟨rfl, rfl, rfl, by decide +kernel, rfl, by decide +kernel, by decide +kernel⟩
def F_stretch_place : List D → M D := callF 2 (sRet (eTup [(eCall F_times [(eBin ixD (eVar 0) (eC (.int 0))), (eVar 1)]), (eCall F_times [(eBin ixD (eVar 0) (eC (.int 1))), (eVar 1)])]))
theorem has_stretch_place (T : Tx K mg cm) (G_times : FL.Has P w K mg base cm "times" 3 ["one", "two"] [[]] [] 2 F_times) : FL.Has P w K mg base cm "stretch_place" 4 ["place", "size"] [[]] [] 2 F_stretch_place :=
  FL.has_of T.d_stretch_place sc_stretch_place rfl rfl (by decide) (fun _ _ _ _ _ _ us hl => match us, hl with | [_, _], _ => rfl) (fun f cdv A outer s H E q hr => by have tk : L2N.Takes (L2.cxOf (L2N.CX P w) P w K mg base N_stretch_place "stretch_place" (L2.defScope s_stretch_place) f cdv A outer s H E) (fun cls d _ H' => E cls d H') := L2N.takes_of rfl rfl rfl rfl; have pa : PassesOwn (model P w) (L2.cxOf (L2N.CX P w) P w K mg base N_stretch_place "stretch_place" (L2.defScope s_stretch_place) f cdv A outer s H E).A (L2.cxOf (L2N.CX P w) P w K mg base N_stretch_place "stretch_place" (L2.defScope s_stretch_place) f cdv A outer s H E).env (L2.cxOf (L2N.CX P w) P w K mg base N_stretch_place "stretch_place" (L2.defScope s_stretch_place) f cdv A outer s H E).xe := L2.passes_of rfl; exact (FL.pssx_one (FL.psx_ret (FL.px_tup (FL.pax_cons (FL.px_has G_times (hr.mono (by decide)) tk (by rfl) (FL.pax_cons (FL.px_ix (FL.px_var 0) FL.px_int) (FL.pax_cons (FL.px_var 1) FL.pax_nil))) (FL.pax_cons (FL.px_has G_times (hr.mono (by decide)) tk (by rfl) (FL.pax_cons (FL.px_ix (FL.px_var 0) FL.px_int) (FL.pax_cons (FL.px_var 1) FL.pax_nil))) FL.pax_nil))))))
abbrev N__law_times : List Str := ["one", "other"]
theorem sc__law_times : L2.FnScope N__law_times ["one", "other"] (L2.defScope s__law_times) := ⟨rfl, rfl, rfl, by decide +kernel, rfl, by decide +kernel, by decide +kernel⟩
def F__law_times : List D → M D := callF 2 (sRet (eCall F__law_ratio [(eBin mulD (eBin ixD (eVar 0) (eC (.int 0))) (eBin ixD (eVar 1) (eC (.int 0)))), (eBin mulD (eBin ixD (eVar 0) (eC (.int 1))) (eBin ixD (eVar 1) (eC (.int 1))))]))
theorem has__law_times (T : Tx K mg cm) (G__law_ratio : FL.Has P w K mg base cm "_law_ratio" 3 ["top", "bottom"] [[]] [] 2 F__law_ratio) : FL.Has P w K mg base cm "_law_times" 4 ["one", "other"] [[]] [] 2 F__law_times :=
  FL.has_of T.d__law_times sc__law_times rfl rfl (by decide) (fun _ _ _ _ _ _ us hl => match us, hl with | [_, _], _ => rfl) (fun f cdv A outer s H E q hr => by have tk : L2N.Takes (L2.cxOf (L2N.CX P w) P w K mg base N__law_times "_law_times" (L2.defScope s__law_times) f cdv A outer s H E) (fun cls d _ H' => E cls d H') := L2N.takes_of rfl rfl rfl rfl; have pa : PassesOwn (model P w) (L2.cxOf (L2N.CX P w) P w K mg base N__law_times "_law_times" (L2.defScope s__law_times) f cdv A outer s H E).A (L2.cxOf (L2N.CX P w) P w K mg base N__law_times "_law_times" (L2.defScope s__law_times) f cdv A outer s H E).env (L2.cxOf (L2N.CX P w) P w K mg base N__law_times "_law_times" (L2.defScope s__law_times) f cdv A outer s H E).xe := L2.passes_of rfl; exact (FL.pssx_one (FL.psx_ret (FL.px_has G__law_ratio (hr.mono (by decide)) tk (by rfl) (FL.pax_cons (FL.px_bin L2.op_mulW FL.mul_ok (FL.px_ix (FL.px_var 0) FL.px_int) (FL.px_ix (FL.px_var 1) FL.px_int)) (FL.pax_cons (FL.px_bin L2.op_mulW FL.mul_ok (FL.px_ix (FL.px_var 0) FL.px_int) (FL.px_ix (FL.px_var 1) FL.px_int)) FL.pax_nil))))))
abbrev N__law_minus : List Str := ["one", "other"]
theorem sc__law_minus : L2.FnScope N__law_minus ["one", "other"] (L2.defScope s__law_minus) := ⟨rfl, rfl, rfl, by decide +kernel, rfl, by decide +kernel, by decide +kernel⟩
def F__law_minus : List D → M D := callF 2 (sRet (eCall F__law_ratio [(eBin subD (eBin mulD (eBin ixD (eVar 0) (eC (.int 0))) (eBin ixD (eVar 1) (eC (.int 1)))) (eBin mulD (eBin ixD (eVar 1) (eC (.int 0))) (eBin ixD (eVar 0) (eC (.int 1))))), (eBin mulD (eBin ixD (eVar 0) (eC (.int 1))) (eBin ixD (eVar 1) (eC (.int 1))))]))
theorem has__law_minus (T : Tx K mg cm) (G__law_ratio : FL.Has P w K mg base cm "_law_ratio" 3 ["top", "bottom"] [[]] [] 2 F__law_ratio) : FL.Has P w K mg base cm "_law_minus" 4 ["one", "other"] [[]] [] 2 F__law_minus :=
  FL.has_of T.d__law_minus sc__law_minus rfl rfl (by decide) (fun _ _ _ _ _ _ us hl => match us, hl with | [_, _], _ => rfl) (fun f cdv A outer s H E q hr => by have tk : L2N.Takes (L2.cxOf (L2N.CX P w) P w K mg base N__law_minus "_law_minus" (L2.defScope s__law_minus) f cdv A outer s H E) (fun cls d _ H' => E cls d H') := L2N.takes_of rfl rfl rfl rfl; have pa : PassesOwn (model P w) (L2.cxOf (L2N.CX P w) P w K mg base N__law_minus "_law_minus" (L2.defScope s__law_minus) f cdv A outer s H E).A (L2.cxOf (L2N.CX P w) P w K mg base N__law_minus "_law_minus" (L2.defScope s__law_minus) f cdv A outer s H E).env (L2.cxOf (L2N.CX P w) P w K mg base N__law_minus "_law_minus" (L2.defScope s__law_minus) f cdv A outer s H E).xe := L2.passes_of rfl; exact (FL.pssx_one (FL.psx_ret (FL.px_has G__law_ratio (hr.mono (by decide)) tk (by rfl) (FL.pax_cons (FL.px_bin L2.op_sub FL.sub_ok (FL.px_bin L2.op_mulW FL.mul_ok (FL.px_ix (FL.px_var 0) FL.px_int) (FL.px_ix (FL.px_var 1) FL.px_int)) (FL.px_bin L2.op_mulW FL.mul_ok (FL.px_ix (FL.px_var 1) FL.px_int) (FL.px_ix (FL.px_var 0) FL.px_int))) (FL.pax_cons (FL.px_bin L2.op_mulW FL.mul_ok (FL.px_ix (FL.px_var 0) FL.px_int) (FL.px_ix (FL.px_var 1) FL.px_int)) FL.pax_nil))))))
abbrev N__law_cross : List Str := ["one", "two", "three", "left", "right"]
theorem sc__law_cross : L2.FnScope N__law_cross ["one", "two", "three"] (L2.defScope s__law_cross) := ⟨rfl, rfl, rfl, by decide +kernel, rfl, by decide +kernel, by decide +kernel⟩
def F__law_cross : List D → M D := callF 5 (sSeq (sSet 3 (eCall F__law_times [(eCall F__law_minus [(eBin ixD (eVar 1) (eC (.int 0))), (eBin ixD (eVar 0) (eC (.int 0)))]), (eCall F__law_minus [(eBin ixD (eVar 2) (eC (.int 1))), (eBin ixD (eVar 0) (eC (.int 1)))])])) (sSeq (sSet 4 (eCall F__law_times [(eCall F__law_minus [(eBin ixD (eVar 1) (eC (.int 1))), (eBin ixD (eVar 0) (eC (.int 1)))]), (eCall F__law_minus [(eBin ixD (eVar 2) (eC (.int 0))), (eBin ixD (eVar 0) (eC (.int 0)))])])) (sRet (eCall F__law_minus [(eVar 3), (eVar 4)]))))
theorem has__law_cross (T : Tx K mg cm) (G__law_minus : FL.Has P w K mg base cm "_law_minus" 4 ["one", "other"] [[]] [] 2 F__law_minus) (G__law_times : FL.Has P w K mg base cm "_law_times" 4 ["one", "other"] [[]] [] 2 F__law_times) : FL.Has P w K mg base cm "_law_cross" 5 ["one", "two", "three"] [[]] [] 3 F__law_cross :=
  FL.has_of T.d__law_cross sc__law_cross rfl rfl (by decide) (fun _ _ _ _ _ _ us hl => match us, hl with | [_, _, _], _ => rfl) (fun f cdv A outer s H E q hr => by have tk : L2N.Takes (L2.cxOf (L2N.CX P w) P w K mg base N__law_cross "_law_cross" (L2.defScope s__law_cross) f cdv A outer s H E) (fun cls d _ H' => E cls d H') := L2N.takes_of rfl rfl rfl rfl; have pa : PassesOwn (model P w) (L2.cxOf (L2N.CX P w) P w K mg base N__law_cross "_law_cross" (L2.defScope s__law_cross) f cdv A outer s H E).A (L2.cxOf (L2N.CX P w) P w K mg base N__law_cross "_law_cross" (L2.defScope s__law_cross) f cdv A outer s H E).env (L2.cxOf (L2N.CX P w) P w K mg base N__law_cross "_law_cross" (L2.defScope s__law_cross) f cdv A outer s H E).xe := L2.passes_of rfl; exact (FL.pssx_cons (FL.psx_set sc__law_cross.nd (i := 3) rfl (by first | exact Or.inl rfl | exact Or.inr rfl) (FL.px_has G__law_times (hr.mono (by decide)) tk (by rfl) (FL.pax_cons (FL.px_has G__law_minus (hr.mono (by decide)) tk (by rfl) (FL.pax_cons (FL.px_ix (FL.px_var 1) FL.px_int) (FL.pax_cons (FL.px_ix (FL.px_var 0) FL.px_int) FL.pax_nil))) (FL.pax_cons (FL.px_has G__law_minus (hr.mono (by decide)) tk (by rfl) (FL.pax_cons (FL.px_ix (FL.px_var 2) FL.px_int) (FL.pax_cons (FL.px_ix (FL.px_var 0) FL.px_int) FL.pax_nil))) FL.pax_nil)))) (FL.pssx_cons (FL.psx_set sc__law_cross.nd (i := 4) rfl (by first | exact Or.inl rfl | exact Or.inr rfl) (FL.px_has G__law_times (hr.mono (by decide)) tk (by rfl) (FL.pax_cons (FL.px_has G__law_minus (hr.mono (by decide)) tk (by rfl) (FL.pax_cons (FL.px_ix (FL.px_var 1) FL.px_int) (FL.pax_cons (FL.px_ix (FL.px_var 0) FL.px_int) FL.pax_nil))) (FL.pax_cons (FL.px_has G__law_minus (hr.mono (by decide)) tk (by rfl) (FL.pax_cons (FL.px_ix (FL.px_var 2) FL.px_int) (FL.pax_cons (FL.px_ix (FL.px_var 0) FL.px_int) FL.pax_nil))) FL.pax_nil)))) (FL.pssx_one (FL.psx_ret (FL.px_has G__law_minus (hr.mono (by decide)) tk (by rfl) (FL.pax_cons (FL.px_var 3) (FL.pax_cons (FL.px_var 4) FL.pax_nil))))))))
abbrev N_minus : List Str := ["one", "two"]
theorem sc_minus : L2.FnScope N_minus ["one", "two"] (L2.defScope s_minus) := ⟨rfl, rfl, rfl, by decide +kernel, rfl, by decide +kernel, by decide +kernel⟩
def F_minus : List D → M D := callF 2 (sRet (eCall F__lowest [(eBin subD (eBin mulD (eBin ixD (eVar 0) (eC (.int 0))) (eBin ixD (eVar 1) (eC (.int 1)))) (eBin mulD (eBin ixD (eVar 1) (eC (.int 0))) (eBin ixD (eVar 0) (eC (.int 1))))), (eBin mulD (eBin ixD (eVar 0) (eC (.int 1))) (eBin ixD (eVar 1) (eC (.int 1))))]))
theorem has_minus (T : Tx K mg cm) (G__lowest : FL.Has P w K mg base cm "_lowest" 2 ["top", "bottom"] [[]] [] 2 F__lowest) : FL.Has P w K mg base cm "minus" 3 ["one", "two"] [[]] [] 2 F_minus :=
  FL.has_of T.d_minus sc_minus rfl rfl (by decide) (fun _ _ _ _ _ _ us hl => match us, hl with | [_, _], _ => rfl) (fun f cdv A outer s H E q hr => by have tk : L2N.Takes (L2.cxOf (L2N.CX P w) P w K mg base N_minus "minus" (L2.defScope s_minus) f cdv A outer s H E) (fun cls d _ H' => E cls d H') := L2N.takes_of rfl rfl rfl rfl; have pa : PassesOwn (model P w) (L2.cxOf (L2N.CX P w) P w K mg base N_minus "minus" (L2.defScope s_minus) f cdv A outer s H E).A (L2.cxOf (L2N.CX P w) P w K mg base N_minus "minus" (L2.defScope s_minus) f cdv A outer s H E).env (L2.cxOf (L2N.CX P w) P w K mg base N_minus "minus" (L2.defScope s_minus) f cdv A outer s H E).xe := L2.passes_of rfl; exact (FL.pssx_one (FL.psx_ret (FL.px_has G__lowest (hr.mono (by decide)) tk (by rfl) (FL.pax_cons (FL.px_bin L2.op_sub FL.sub_ok (FL.px_bin L2.op_mulW FL.mul_ok (FL.px_ix (FL.px_var 0) FL.px_int) (FL.px_ix (FL.px_var 1) FL.px_int)) (FL.px_bin L2.op_mulW FL.mul_ok (FL.px_ix (FL.px_var 1) FL.px_int) (FL.px_ix (FL.px_var 0) FL.px_int))) (FL.pax_cons (FL.px_bin L2.op_mulW FL.mul_ok (FL.px_ix (FL.px_var 0) FL.px_int) (FL.px_ix (FL.px_var 1) FL.px_int)) FL.pax_nil))))))
abbrev N_cross_of : List Str := ["one", "two", "three", "left", "right"]
theorem sc_cross_of : L2.FnScope N_cross_of ["one", "two", "three"] (L2.defScope s_cross_of) := ⟨rfl, rfl, rfl, by decide +kernel, rfl, by decide +kernel, by decide +kernel⟩
def F_cross_of : List D → M D := callF 5 (sSeq (sSet 3 (eCall F_times [(eCall F_minus [(eBin ixD (eVar 1) (eC (.int 0))), (eBin ixD (eVar 0) (eC (.int 0)))]), (eCall F_minus [(eBin ixD (eVar 2) (eC (.int 1))), (eBin ixD (eVar 0) (eC (.int 1)))])])) (sSeq (sSet 4 (eCall F_times [(eCall F_minus [(eBin ixD (eVar 1) (eC (.int 1))), (eBin ixD (eVar 0) (eC (.int 1)))]), (eCall F_minus [(eBin ixD (eVar 2) (eC (.int 0))), (eBin ixD (eVar 0) (eC (.int 0)))])])) (sRet (eCall F_minus [(eVar 3), (eVar 4)]))))
theorem has_cross_of (T : Tx K mg cm) (G_minus : FL.Has P w K mg base cm "minus" 3 ["one", "two"] [[]] [] 2 F_minus) (G_times : FL.Has P w K mg base cm "times" 3 ["one", "two"] [[]] [] 2 F_times) : FL.Has P w K mg base cm "cross_of" 4 ["one", "two", "three"] [[]] [] 3 F_cross_of :=
  FL.has_of T.d_cross_of sc_cross_of rfl rfl (by decide) (fun _ _ _ _ _ _ us hl => match us, hl with | [_, _, _], _ => rfl) (fun f cdv A outer s H E q hr => by have tk : L2N.Takes (L2.cxOf (L2N.CX P w) P w K mg base N_cross_of "cross_of" (L2.defScope s_cross_of) f cdv A outer s H E) (fun cls d _ H' => E cls d H') := L2N.takes_of rfl rfl rfl rfl; have pa : PassesOwn (model P w) (L2.cxOf (L2N.CX P w) P w K mg base N_cross_of "cross_of" (L2.defScope s_cross_of) f cdv A outer s H E).A (L2.cxOf (L2N.CX P w) P w K mg base N_cross_of "cross_of" (L2.defScope s_cross_of) f cdv A outer s H E).env (L2.cxOf (L2N.CX P w) P w K mg base N_cross_of "cross_of" (L2.defScope s_cross_of) f cdv A outer s H E).xe := L2.passes_of rfl; exact (FL.pssx_cons (FL.psx_set sc_cross_of.nd (i := 3) rfl (by first | exact Or.inl rfl | exact Or.inr rfl) (FL.px_has G_times (hr.mono (by decide)) tk (by rfl) (FL.pax_cons (FL.px_has G_minus (hr.mono (by decide)) tk (by rfl) (FL.pax_cons (FL.px_ix (FL.px_var 1) FL.px_int) (FL.pax_cons (FL.px_ix (FL.px_var 0) FL.px_int) FL.pax_nil))) (FL.pax_cons (FL.px_has G_minus (hr.mono (by decide)) tk (by rfl) (FL.pax_cons (FL.px_ix (FL.px_var 2) FL.px_int) (FL.pax_cons (FL.px_ix (FL.px_var 0) FL.px_int) FL.pax_nil))) FL.pax_nil)))) (FL.pssx_cons (FL.psx_set sc_cross_of.nd (i := 4) rfl (by first | exact Or.inl rfl | exact Or.inr rfl) (FL.px_has G_times (hr.mono (by decide)) tk (by rfl) (FL.pax_cons (FL.px_has G_minus (hr.mono (by decide)) tk (by rfl) (FL.pax_cons (FL.px_ix (FL.px_var 1) FL.px_int) (FL.pax_cons (FL.px_ix (FL.px_var 0) FL.px_int) FL.pax_nil))) (FL.pax_cons (FL.px_has G_minus (hr.mono (by decide)) tk (by rfl) (FL.pax_cons (FL.px_ix (FL.px_var 2) FL.px_int) (FL.pax_cons (FL.px_ix (FL.px_var 0) FL.px_int) FL.pax_nil))) FL.pax_nil)))) (FL.pssx_one (FL.psx_ret (FL.px_has G_minus (hr.mono (by decide)) tk (by rfl) (FL.pax_cons (FL.px_var 3) (FL.pax_cons (FL.px_var 4) FL.pax_nil))))))))
abbrev N_in_row : List Str := ["places", "place"]
theorem sc_in_row : L2.FnScope N_in_row ["places"] (L2.defScope s_in_row) := ⟨rfl, rfl, rfl, by decide +kernel, rfl, by decide +kernel, by decide +kernel⟩
def B_in_row_0 : SF := (sIf (tVal (eBin neD (eCall F_cross_of [(eBin ixD (eVar 0) (eC (.int 0))), (eBin ixD (eVar 0) (eC (.int 1))), (eVar 1)]) (eC (.tup [(.int 0), (.int 1)])))) (sRet (eC (.bl false))) sNext)
theorem B_in_row_0_w {ρ : FL.Env} {w : Wd} : B_in_row_0 ρ w = (sIf (tVal (eBin neD (eCall F_cross_of [(eBin ixD (eVar 0) (eC (.int 0))), (eBin ixD (eVar 0) (eC (.int 1))), (eVar 1)]) (eC (.tup [(.int 0), (.int 1)])))) (sRet (eC (.bl false))) sNext) ρ w := rfl
def F_in_row : List D → M D := callF 2 (sSeq (sIf (tVal (eBin ltD (eCall (un1 lenD) [(eVar 0)]) (eC (.int 3)))) (sRet (eC (.bl true))) sNext) (sSeq (sFor (iSeq (eSlice (eVar 0) (some (eC (.int 2))) none)) (gN 1) B_in_row_0) (sRet (eC (.bl true)))))
theorem has_in_row (T : Tx K mg cm) (G_cross_of : FL.Has P w K mg base cm "cross_of" 4 ["one", "two", "three"] [[]] [] 3 F_cross_of) : FL.Has P w K mg base cm "in_row" 5 ["places"] [[]] [] 1 F_in_row :=
  FL.has_of T.d_in_row sc_in_row rfl rfl (by decide) (fun _ _ _ _ _ _ us hl => match us, hl with | [_], _ => rfl) (fun f cdv A outer s H E q hr => by have tk : L2N.Takes (L2.cxOf (L2N.CX P w) P w K mg base N_in_row "in_row" (L2.defScope s_in_row) f cdv A outer s H E) (fun cls d _ H' => E cls d H') := L2N.takes_of rfl rfl rfl rfl; have pa : PassesOwn (model P w) (L2.cxOf (L2N.CX P w) P w K mg base N_in_row "in_row" (L2.defScope s_in_row) f cdv A outer s H E).A (L2.cxOf (L2N.CX P w) P w K mg base N_in_row "in_row" (L2.defScope s_in_row) f cdv A outer s H E).env (L2.cxOf (L2N.CX P w) P w K mg base N_in_row "in_row" (L2.defScope s_in_row) f cdv A outer s H E).xe := L2.passes_of rfl; exact (FL.pssx_cons (FL.psx_if (FL.ptx_cmp L2.op_lt FL.lt_ok (FL.px_callB L2.call_len FL.len_ok (by rfl) T.n_len FL.bt_len (FL.pax_cons (FL.px_var 0) FL.pax_nil)) FL.px_int (L2.nomark _)) (FL.pssx_one (FL.psx_ret FL.px_bl)) FL.pssx_nil) (FL.pssx_cons (FL.psx_for pa rfl (FL.pix_any (FL.px_slice (FL.px_var 0) (FL.pox_some FL.px_int) FL.pox_none)) (L2.pg_name (i := 1) sc_in_row.nd rfl (by first | exact Or.inl rfl | exact Or.inr rfl)) (FL.tgx_n 1) (FL.pssx_one (FL.psx_if (FL.ptx_cmp (L2.op_neD (FL.hu64 hr)) FL.ne_ok (FL.px_has G_cross_of (hr.mono (by decide)) tk (by rfl) (FL.pax_cons (FL.px_ix (FL.px_var 0) FL.px_int) (FL.pax_cons (FL.px_ix (FL.px_var 0) FL.px_int) (FL.pax_cons (FL.px_var 1) FL.pax_nil)))) (FL.px_gtupE (by rfl) T.c_ZERO) (L2.nomark _)) (FL.pssx_one (FL.psx_ret FL.px_bl)) FL.pssx_nil))) (FL.pssx_one (FL.psx_ret FL.px_bl)))))
abbrev N_check_leg : List Str := ["legs", "leg"]
theorem sc_check_leg : L2.FnScope N_check_leg ["legs", "leg"] (L2.defScope s_check_leg) := ⟨rfl, rfl, rfl, by decide +kernel, rfl, by decide +kernel, by decide +kernel⟩
def F_check_leg : List D → M D := callF 2 (sSeq (sIf (tNot (tTru (eCall F_is_whole [(eVar 1), (eC (.int 0)), (eBin subD (eCall (un1 lenD) [(eVar 0)]) (eC (.int 1)))]))) (sRaise 3 ["leg"] [(eVar 1)]) sNext) (sRet (eVar 1)))
theorem has_check_leg (T : Tx K mg cm) (G_is_whole : FL.Has P w K mg base cm "is_whole" 2 ["thing", "low", "high"] [[.non, .non], [.non], []] [] 3 F_is_whole) : FL.Has P w K mg base cm "check_leg" 3 ["legs", "leg"] [[]] [] 2 F_check_leg :=
  FL.has_of T.d_check_leg sc_check_leg rfl rfl (by decide) (fun _ _ _ _ _ _ us hl => match us, hl with | [_, _], _ => rfl) (fun f cdv A outer s H E q hr => by have tk : L2N.Takes (L2.cxOf (L2N.CX P w) P w K mg base N_check_leg "check_leg" (L2.defScope s_check_leg) f cdv A outer s H E) (fun cls d _ H' => E cls d H') := L2N.takes_of rfl rfl rfl rfl; have pa : PassesOwn (model P w) (L2.cxOf (L2N.CX P w) P w K mg base N_check_leg "check_leg" (L2.defScope s_check_leg) f cdv A outer s H E).A (L2.cxOf (L2N.CX P w) P w K mg base N_check_leg "check_leg" (L2.defScope s_check_leg) f cdv A outer s H E).env (L2.cxOf (L2N.CX P w) P w K mg base N_check_leg "check_leg" (L2.defScope s_check_leg) f cdv A outer s H E).xe := L2.passes_of rfl; exact (FL.pssx_cons (FL.psx_if (FL.ptx_not (FL.ptx_tru (FL.px_has G_is_whole (hr.mono (by decide)) tk (by rfl) (FL.pax_cons (FL.px_var 1) (FL.pax_cons FL.px_int (FL.pax_cons (FL.px_bin L2.op_sub FL.sub_ok (FL.px_callB L2.call_len FL.len_ok (by rfl) T.n_len FL.bt_len (FL.pax_cons (FL.px_var 0) FL.pax_nil)) FL.px_int) FL.pax_nil)))))) (FL.pssx_one (FL.psx_raiseH 3 (T.exc_3) rfl rfl tk (hr.mono (by decide)) (by rfl) (FL.pax_cons (FL.px_var 1) FL.pax_nil))) FL.pssx_nil) (FL.pssx_one (FL.psx_ret (FL.px_var 1)))))
abbrev N__law_leg : List Str := ["legs", "leg", "found", "wrong"]
theorem sc__law_leg : L2.FnScope N__law_leg ["legs", "leg"] (L2.defScope s__law_leg) := ⟨rfl, rfl, rfl, by decide +kernel, rfl, by decide +kernel, by decide +kernel⟩
def F__law_leg : List D → M D := callF 4 (sSeq (sTry (sSet 2 (eCall F_check_leg [(eVar 0), (eVar 1)])) [3] [] 3 (sSet 2 (eIf (tVal (eBin eqD (eXf 3 "leg") (eVar 1))) (eC (.str "refused")) (eC (.str "other"))))) (sRet (eVar 2)))
theorem has__law_leg (T : Tx K mg cm) (G_check_leg : FL.Has P w K mg base cm "check_leg" 3 ["legs", "leg"] [[]] [] 2 F_check_leg) : FL.Has P w K mg base cm "_law_leg" 4 ["legs", "leg"] [[]] [] 2 F__law_leg :=
  FL.has_of T.d__law_leg sc__law_leg rfl rfl (by decide) (fun _ _ _ _ _ _ us hl => match us, hl with | [_, _], _ => rfl) (fun f cdv A outer s H E q hr => by have tk : L2N.Takes (L2.cxOf (L2N.CX P w) P w K mg base N__law_leg "_law_leg" (L2.defScope s__law_leg) f cdv A outer s H E) (fun cls d _ H' => E cls d H') := L2N.takes_of rfl rfl rfl rfl; have pa : PassesOwn (model P w) (L2.cxOf (L2N.CX P w) P w K mg base N__law_leg "_law_leg" (L2.defScope s__law_leg) f cdv A outer s H E).A (L2.cxOf (L2N.CX P w) P w K mg base N__law_leg "_law_leg" (L2.defScope s__law_leg) f cdv A outer s H E).env (L2.cxOf (L2N.CX P w) P w K mg base N__law_leg "_law_leg" (L2.defScope s__law_leg) f cdv A outer s H E).xe := L2.passes_of rfl; exact (FL.pssx_cons (FL.psx_try (i := 3) [3] [] rfl rfl rfl sc__law_leg.nd rfl rfl ⟨by rfl, by decide, .inl T.x_3⟩ tk (fun k hk => by rw [List.mem_singleton.mp hk]; exact T.em_3_3) (fun _ z => nomatch z) (fun W pn xe tk pa => (FL.pssx_one (FL.psx_set sc__law_leg.nd (i := 2) rfl (by first | exact Or.inl rfl | exact Or.inr rfl) (FL.px_has G_check_leg (hr.mono (by decide)) tk (by rfl) (FL.pax_cons (FL.px_var 0) (FL.pax_cons (FL.px_var 1) FL.pax_nil)))))) (fun a oe k dd pn hk hz hf => (FL.pssx_one (FL.psx_set sc__law_leg.nd (i := 2) rfl (by first | exact Or.inl rfl | exact Or.inr rfl) (FL.px_if (FL.ptx_cmp (L2.op_eqD (by have z := FL.hu64 hr; exact z)) FL.eq_ok (FL.px_xf (i := 3) (by rw [List.mem_singleton.mp hk]; exact T.xf_3) (by rw [List.mem_singleton.mp hk]; exact T.no_3_leg) hz hf) (FL.px_var 1) (L2.nomark _)) FL.px_str FL.px_str))))) (FL.pssx_one (FL.psx_ret (FL.px_var 2)))))
abbrev N_check_place : List Str := ["place"]
theorem sc_check_place : L2.FnScope N_check_place ["place"] (L2.defScope s_check_place) := ⟨rfl, rfl, rfl, by decide +kernel, rfl, by decide +kernel, by decide +kernel⟩
def F_check_place : List D → M D := callF 1 (sSeq (sIf (tNot (tTru (eCall F_is_place [(eVar 0)]))) (sRaise 1 ["place"] [(eVar 0)]) sNext) (sRet (eTup [(eBin ixD (eVar 0) (eC (.int 0))), (eBin ixD (eVar 0) (eC (.int 1)))])))
theorem has_check_place (T : Tx K mg cm) (G_is_place : FL.Has P w K mg base cm "is_place" 5 ["thing"] [[]] [] 1 F_is_place) : FL.Has P w K mg base cm "check_place" 6 ["place"] [[]] [] 1 F_check_place :=
  FL.has_of T.d_check_place sc_check_place rfl rfl (by decide) (fun _ _ _ _ _ _ us hl => match us, hl with | [_], _ => rfl) (fun f cdv A outer s H E q hr => by have tk : L2N.Takes (L2.cxOf (L2N.CX P w) P w K mg base N_check_place "check_place" (L2.defScope s_check_place) f cdv A outer s H E) (fun cls d _ H' => E cls d H') := L2N.takes_of rfl rfl rfl rfl; have pa : PassesOwn (model P w) (L2.cxOf (L2N.CX P w) P w K mg base N_check_place "check_place" (L2.defScope s_check_place) f cdv A outer s H E).A (L2.cxOf (L2N.CX P w) P w K mg base N_check_place "check_place" (L2.defScope s_check_place) f cdv A outer s H E).env (L2.cxOf (L2N.CX P w) P w K mg base N_check_place "check_place" (L2.defScope s_check_place) f cdv A outer s H E).xe := L2.passes_of rfl; exact (FL.pssx_cons (FL.psx_if (FL.ptx_not (FL.ptx_tru (FL.px_has G_is_place (hr.mono (by decide)) tk (by rfl) (FL.pax_cons (FL.px_var 0) FL.pax_nil)))) (FL.pssx_one (FL.psx_raiseH 1 (T.exc_1) rfl rfl tk (hr.mono (by decide)) (by rfl) (FL.pax_cons (FL.px_var 0) FL.pax_nil))) FL.pssx_nil) (FL.pssx_one (FL.psx_ret (FL.px_tup (FL.pax_cons (FL.px_ix (FL.px_var 0) FL.px_int) (FL.pax_cons (FL.px_ix (FL.px_var 0) FL.px_int) FL.pax_nil)))))))
abbrev N__law_bare : List Str := ["thing", "item"]
theorem sc__law_bare : L2.FnScope N__law_bare ["thing"] (L2.defScope s__law_bare) := ⟨rfl, rfl, rfl, by decide +kernel, rfl, by decide +kernel, by decide +kernel⟩
def F__law_bare : Nat → List D → M D
  | 0 => fun _ => M.fail
  | n + 1 => callF 2 (sRet (eIf (tTru (eUn (isiB [.list, .tuple]) (eVar 0))) (eCall (un1 tupD) [(eNew (nLc (iSeq (eVar 0)) [1] (gN 1) tYes (eCall (F__law_bare n) [(eVar 1)])))]) (eVar 0)))
theorem has__law_bare (T : Tx K mg cm)  : ∀ n, FL.Has P w K mg base cm "_law_bare" (n + 2) ["thing"] [[]] [] 1 (F__law_bare n)
  | 0 => FL.has_no T.d__law_bare rfl (fun _ _ _ _ _ _ us hl => match us, hl with | [_], _ => rfl)
  | n + 1 => by have ih := has__law_bare T  n; exact FL.has_of T.d__law_bare sc__law_bare rfl rfl (by decide) (fun _ _ _ _ _ _ us hl => match us, hl with | [_], _ => rfl) (fun f cdv A outer s H E q hr => by have tk : L2N.Takes (L2.cxOf (L2N.CX P w) P w K mg base N__law_bare "_law_bare" (L2.defScope s__law_bare) f cdv A outer s H E) (fun cls d _ H' => E cls d H') := L2N.takes_of rfl rfl rfl rfl; have pa : PassesOwn (model P w) (L2.cxOf (L2N.CX P w) P w K mg base N__law_bare "_law_bare" (L2.defScope s__law_bare) f cdv A outer s H E).A (L2.cxOf (L2N.CX P w) P w K mg base N__law_bare "_law_bare" (L2.defScope s__law_bare) f cdv A outer s H E).env (L2.cxOf (L2N.CX P w) P w K mg base N__law_bare "_law_bare" (L2.defScope s__law_bare) f cdv A outer s H E).xe := L2.passes_of rfl; exact (FL.pssx_one (FL.psx_ret (FL.px_if (FL.ptx_tru (FL.px_isi2 .list .tuple (by rfl) T.n_isinstance (by rfl) T.n_list FL.bt_list (by rfl) T.n_tuple FL.bt_tuple (FL.px_var 0))) (FL.px_callTy L2.call_tuple_of FL.tuple_ok (by rfl) T.n_tuple FL.bt_tuple (FL.pax_cons (FL.px_new (FL.pnx_lcE (own := [("item", 1)]) rfl sc__law_bare.nd (FL.pix_any (FL.px_var 0)) (L2.blkOk_by (N := N__law_bare) (sc := L2.defScope s__law_bare) (by decide +kernel)) rfl (fun _ _ _ _ _ => (L2.pg_name (i := 1) sc__law_bare.nd rfl (by first | exact Or.inl rfl | exact Or.inr rfl))) (FL.tgx_n 1) (fun _ _ _ _ _ => FL.ptsx0) (fun _ _ _ _ _ => (FL.px_has ih hr FL.takes0N (by rfl) (FL.pax_cons (FL.px_var 1) FL.pax_nil))))) FL.pax_nil)) (FL.px_var 0)))))
theorem hasH__law_bare (T : Tx K mg cm)  : ∀ n, FL.HasH P w K mg base cm "_law_bare" (n + 2) ["thing"] 1 (F__law_bare n)
  | 0 => FL.has_noH T.d__law_bare rfl (fun _ _ _ _ _ _ us hl => match us, hl with | [_], _ => rfl)
  | n + 1 => by have ihH := hasH__law_bare T  n; exact FL.has_ofH T.d__law_bare sc__law_bare rfl rfl (by decide) (fun _ _ _ _ _ _ us hl => match us, hl with | [_], _ => rfl) (fun f cdv A outer s H E q p hot hr => by have tk : L2N.Takes (L2H.cxH (L2N.CX P w) P w K mg base N__law_bare "_law_bare" (L2.defScope s__law_bare) f cdv A outer s H E p) (fun cls d _ H' => E cls d H') := L2N.takes_of rfl rfl rfl rfl; have hcx : L2H.HotC (L2H.cxH (L2N.CX P w) P w K mg base N__law_bare "_law_bare" (L2.defScope s__law_bare) f cdv A outer s H E p) := ⟨p, ⟨hot.1, hot.2⟩, List.mem_singleton.mpr rfl⟩; exact (FL.pssx_one (FL.psx_ret (FL.px_if (FL.ptx_tru (FL.px_isi2 .list .tuple (by rfl) T.n_isinstance (by rfl) T.n_list FL.bt_list (by rfl) T.n_tuple FL.bt_tuple (FL.px_var 0))) (FL.px_callTy L2.call_tuple_of FL.tuple_ok (by rfl) T.n_tuple FL.bt_tuple (FL.pax_cons (FL.px_new (FL.pnx_lcH (own := [("item", 1)]) hcx sc__law_bare.nd (FL.pix_anyH (FL.px_var 0)) (L2.blkOk_by (N := N__law_bare) (sc := L2.defScope s__law_bare) (by decide +kernel)) rfl (fun _ _ _ _ _ p => (L2.pg_name (i := 1) sc__law_bare.nd rfl (by first | exact Or.inl rfl | exact Or.inr rfl))) (FL.tgx_n 1) (fun _ _ _ _ _ p hp => FL.ptsx0) (fun _ _ _ _ _ p hp => (FL.px_hasH ihH hr ⟨p, hp, List.mem_singleton.mpr rfl⟩ FL.takes0N (by rfl) (FL.pax_cons (FL.px_var 1) FL.pax_nil))))) FL.pax_nil)) (FL.px_var 0)))))
abbrev N__law_one : List Str := ["thing", "found", "wrong"]
theorem sc__law_one : L2.FnScope N__law_one ["thing"] (L2.defScope s__law_one) := ⟨rfl, rfl, rfl, by decide +kernel, rfl, by decide +kernel, by decide +kernel⟩
def F__law_one : List D → M D := callF 3 (sSeq (sTry (sSet 1 (eCall F_check_place [(eVar 0)])) [1] [] 2 (sSet 1 (eIf (tVal (eBin eqD (eCall (F__law_bare 6) [(eXf 2 "place")]) (eCall (F__law_bare 6) [(eVar 0)]))) (eC (.str "refused")) (eC (.str "other"))))) (sRet (eVar 1)))
theorem has__law_one (T : Tx K mg cm) (GH__law_bare : ∀ n, FL.HasH P w K mg base cm "_law_bare" (n + 2) ["thing"] 1 (F__law_bare n)) (G_check_place : FL.Has P w K mg base cm "check_place" 6 ["place"] [[]] [] 1 F_check_place) : FL.Has P w K mg base cm "_law_one" 9 ["thing"] [[]] [] 1 F__law_one :=
  FL.has_of T.d__law_one sc__law_one rfl rfl (by decide) (fun _ _ _ _ _ _ us hl => match us, hl with | [_], _ => rfl) (fun f cdv A outer s H E q hr => by have tk : L2N.Takes (L2.cxOf (L2N.CX P w) P w K mg base N__law_one "_law_one" (L2.defScope s__law_one) f cdv A outer s H E) (fun cls d _ H' => E cls d H') := L2N.takes_of rfl rfl rfl rfl; have pa : PassesOwn (model P w) (L2.cxOf (L2N.CX P w) P w K mg base N__law_one "_law_one" (L2.defScope s__law_one) f cdv A outer s H E).A (L2.cxOf (L2N.CX P w) P w K mg base N__law_one "_law_one" (L2.defScope s__law_one) f cdv A outer s H E).env (L2.cxOf (L2N.CX P w) P w K mg base N__law_one "_law_one" (L2.defScope s__law_one) f cdv A outer s H E).xe := L2.passes_of rfl; exact (FL.pssx_cons (FL.psx_try (i := 2) [1] [] rfl rfl rfl sc__law_one.nd rfl rfl ⟨by rfl, by decide, .inl T.x_1⟩ tk (fun k hk => by rw [List.mem_singleton.mp hk]; exact T.em_1_1) (fun _ z => nomatch z) (fun W pn xe tk pa => (FL.pssx_one (FL.psx_set sc__law_one.nd (i := 1) rfl (by first | exact Or.inl rfl | exact Or.inr rfl) (FL.px_has G_check_place (hr.mono (by decide)) tk (by rfl) (FL.pax_cons (FL.px_var 0) FL.pax_nil))))) (fun a oe k dd pn hk hz hf => (FL.pssx_one (FL.psx_set sc__law_one.nd (i := 1) rfl (by first | exact Or.inl rfl | exact Or.inr rfl) (FL.px_if (FL.ptx_cmp (L2.op_eqD (by have z := FL.hu64 hr; exact z)) FL.eq_ok (FL.px_hasH (GH__law_bare 6) (FL.room_suite (hr.mono (by decide))) (FL.hot_suite hz hf) FL.takes0N (by rfl) (FL.pax_cons (FL.px_xf (i := 2) (by rw [List.mem_singleton.mp hk]; exact T.xf_1) (by rw [List.mem_singleton.mp hk]; exact T.no_1_place) hz hf) FL.pax_nil)) (FL.px_hasH (GH__law_bare 6) (FL.room_suite (hr.mono (by decide))) (FL.hot_suite hz hf) FL.takes0N (by rfl) (FL.pax_cons (FL.px_var 0) FL.pax_nil)) (L2.nomark _)) FL.px_str FL.px_str))))) (FL.pssx_one (FL.psx_ret (FL.px_var 1)))))
abbrev N__law_plus : List Str := ["one", "other"]
theorem sc__law_plus : L2.FnScope N__law_plus ["one", "other"] (L2.defScope s__law_plus) := ⟨rfl, rfl, rfl, by decide +kernel, rfl, by decide +kernel, by decide +kernel⟩
def F__law_plus : List D → M D := callF 2 (sRet (eCall F__law_ratio [(eBin addD (eBin mulD (eBin ixD (eVar 0) (eC (.int 0))) (eBin ixD (eVar 1) (eC (.int 1)))) (eBin mulD (eBin ixD (eVar 1) (eC (.int 0))) (eBin ixD (eVar 0) (eC (.int 1))))), (eBin mulD (eBin ixD (eVar 0) (eC (.int 1))) (eBin ixD (eVar 1) (eC (.int 1))))]))
theorem has__law_plus (T : Tx K mg cm) (G__law_ratio : FL.Has P w K mg base cm "_law_ratio" 3 ["top", "bottom"] [[]] [] 2 F__law_ratio) : FL.Has P w K mg base cm "_law_plus" 4 ["one", "other"] [[]] [] 2 F__law_plus :=
  FL.has_of T.d__law_plus sc__law_plus rfl rfl (by decide) (fun _ _ _ _ _ _ us hl => match us, hl with | [_, _], _ => rfl) (fun f cdv A outer s H E q hr => by have tk : L2N.Takes (L2.cxOf (L2N.CX P w) P w K mg base N__law_plus "_law_plus" (L2.defScope s__law_plus) f cdv A outer s H E) (fun cls d _ H' => E cls d H') := L2N.takes_of rfl rfl rfl rfl; have pa : PassesOwn (model P w) (L2.cxOf (L2N.CX P w) P w K mg base N__law_plus "_law_plus" (L2.defScope s__law_plus) f cdv A outer s H E).A (L2.cxOf (L2N.CX P w) P w K mg base N__law_plus "_law_plus" (L2.defScope s__law_plus) f cdv A outer s H E).env (L2.cxOf (L2N.CX P w) P w K mg base N__law_plus "_law_plus" (L2.defScope s__law_plus) f cdv A outer s H E).xe := L2.passes_of rfl; exact (FL.pssx_one (FL.psx_ret (FL.px_has G__law_ratio (hr.mono (by decide)) tk (by rfl) (FL.pax_cons (FL.px_bin FL.op_addA FL.add_ok (FL.px_bin L2.op_mulW FL.mul_ok (FL.px_ix (FL.px_var 0) FL.px_int) (FL.px_ix (FL.px_var 1) FL.px_int)) (FL.px_bin L2.op_mulW FL.mul_ok (FL.px_ix (FL.px_var 1) FL.px_int) (FL.px_ix (FL.px_var 0) FL.px_int))) (FL.pax_cons (FL.px_bin L2.op_mulW FL.mul_ok (FL.px_ix (FL.px_var 0) FL.px_int) (FL.px_ix (FL.px_var 1) FL.px_int)) FL.pax_nil))))))
abbrev N_negative : List Str := ["one"]
theorem sc_negative : L2.FnScope N_negative ["one"] (L2.defScope s_negative) := ⟨rfl, rfl, rfl, by decide +kernel, rfl, by decide +kernel, by decide +kernel⟩
def F_negative : List D → M D := callF 1 (sRet (eTup [(eUn negD (eBin ixD (eVar 0) (eC (.int 0)))), (eBin ixD (eVar 0) (eC (.int 1)))]))
theorem has_negative (T : Tx K mg cm)  : FL.Has P w K mg base cm "negative" 2 ["one"] [[]] [] 1 F_negative :=
  FL.has_of T.d_negative sc_negative rfl rfl (by decide) (fun _ _ _ _ _ _ us hl => match us, hl with | [_], _ => rfl) (fun f cdv A outer s H E q hr => by have tk : L2N.Takes (L2.cxOf (L2N.CX P w) P w K mg base N_negative "negative" (L2.defScope s_negative) f cdv A outer s H E) (fun cls d _ H' => E cls d H') := L2N.takes_of rfl rfl rfl rfl; have pa : PassesOwn (model P w) (L2.cxOf (L2N.CX P w) P w K mg base N_negative "negative" (L2.defScope s_negative) f cdv A outer s H E).A (L2.cxOf (L2N.CX P w) P w K mg base N_negative "negative" (L2.defScope s_negative) f cdv A outer s H E).env (L2.cxOf (L2N.CX P w) P w K mg base N_negative "negative" (L2.defScope s_negative) f cdv A outer s H E).xe := L2.passes_of rfl; exact (FL.pssx_one (FL.psx_ret (FL.px_tup (FL.pax_cons (FL.px_un L2.un_neg FL.neg_ok (FL.px_ix (FL.px_var 0) FL.px_int)) (FL.pax_cons (FL.px_ix (FL.px_var 0) FL.px_int) FL.pax_nil))))))
abbrev N_turn_place : List Str := ["place"]
theorem sc_turn_place : L2.FnScope N_turn_place ["place"] (L2.defScope s_turn_place) := ⟨rfl, rfl, rfl, by decide +kernel, rfl, by decide +kernel, by decide +kernel⟩
def F_turn_place : List D → M D := callF 1 (sRet (eTup [(eCall F_negative [(eBin ixD (eVar 0) (eC (.int 1)))]), (eBin ixD (eVar 0) (eC (.int 0)))]))
theorem has_turn_place (T : Tx K mg cm) (G_negative : FL.Has P w K mg base cm "negative" 2 ["one"] [[]] [] 1 F_negative) : FL.Has P w K mg base cm "turn_place" 3 ["place"] [[]] [] 1 F_turn_place :=
  FL.has_of T.d_turn_place sc_turn_place rfl rfl (by decide) (fun _ _ _ _ _ _ us hl => match us, hl with | [_], _ => rfl) (fun f cdv A outer s H E q hr => by have tk : L2N.Takes (L2.cxOf (L2N.CX P w) P w K mg base N_turn_place "turn_place" (L2.defScope s_turn_place) f cdv A outer s H E) (fun cls d _ H' => E cls d H') := L2N.takes_of rfl rfl rfl rfl; have pa : PassesOwn (model P w) (L2.cxOf (L2N.CX P w) P w K mg base N_turn_place "turn_place" (L2.defScope s_turn_place) f cdv A outer s H E).A (L2.cxOf (L2N.CX P w) P w K mg base N_turn_place "turn_place" (L2.defScope s_turn_place) f cdv A outer s H E).env (L2.cxOf (L2N.CX P w) P w K mg base N_turn_place "turn_place" (L2.defScope s_turn_place) f cdv A outer s H E).xe := L2.passes_of rfl; exact (FL.pssx_one (FL.psx_ret (FL.px_tup (FL.pax_cons (FL.px_has G_negative (hr.mono (by decide)) tk (by rfl) (FL.pax_cons (FL.px_ix (FL.px_var 0) FL.px_int) FL.pax_nil)) (FL.pax_cons (FL.px_ix (FL.px_var 0) FL.px_int) FL.pax_nil))))))
abbrev N_mirror_place : List Str := ["place"]
theorem sc_mirror_place : L2.FnScope N_mirror_place ["place"] (L2.defScope s_mirror_place) := ⟨rfl, rfl, rfl, by decide +kernel, rfl, by decide +kernel, by decide +kernel⟩
def F_mirror_place : List D → M D := callF 1 (sRet (eTup [(eCall F_negative [(eBin ixD (eVar 0) (eC (.int 0)))]), (eBin ixD (eVar 0) (eC (.int 1)))]))
theorem has_mirror_place (T : Tx K mg cm) (G_negative : FL.Has P w K mg base cm "negative" 2 ["one"] [[]] [] 1 F_negative) : FL.Has P w K mg base cm "mirror_place" 3 ["place"] [[]] [] 1 F_mirror_place :=
  FL.has_of T.d_mirror_place sc_mirror_place rfl rfl (by decide) (fun _ _ _ _ _ _ us hl => match us, hl with | [_], _ => rfl) (fun f cdv A outer s H E q hr => by have tk : L2N.Takes (L2.cxOf (L2N.CX P w) P w K mg base N_mirror_place "mirror_place" (L2.defScope s_mirror_place) f cdv A outer s H E) (fun cls d _ H' => E cls d H') := L2N.takes_of rfl rfl rfl rfl; have pa : PassesOwn (model P w) (L2.cxOf (L2N.CX P w) P w K mg base N_mirror_place "mirror_place" (L2.defScope s_mirror_place) f cdv A outer s H E).A (L2.cxOf (L2N.CX P w) P w K mg base N_mirror_place "mirror_place" (L2.defScope s_mirror_place) f cdv A outer s H E).env (L2.cxOf (L2N.CX P w) P w K mg base N_mirror_place "mirror_place" (L2.defScope s_mirror_place) f cdv A outer s H E).xe := L2.passes_of rfl; exact (FL.pssx_one (FL.psx_ret (FL.px_tup (FL.pax_cons (FL.px_has G_negative (hr.mono (by decide)) tk (by rfl) (FL.pax_cons (FL.px_ix (FL.px_var 0) FL.px_int) FL.pax_nil)) (FL.pax_cons (FL.px_ix (FL.px_var 0) FL.px_int) FL.pax_nil))))))
abbrev N_law : List Str := ["script", "hand", "places", "marked", "turn", "at", "kind", "odd", "given", "kept", "found", "by", "size", "place", "straight", "one", "two", "cross", "many", "leg", "due", "row"]
theorem sc_law : L2.FnScope N_law ["script"] (L2.defScope s_law) := ⟨rfl, rfl, rfl, by decide +kernel, rfl, by decide +kernel, by decide +kernel⟩
def B_law_0 : SF := (sSeq (sSet 5 (eCall F__law_take [(eVar 1), (eBor (eCall (un1 lenD) [(eVar 3)]))])) (sSeq (sSet 6 (eCall F__law_take [(eVar 1), (eC (.int 3))])) (sIf (tVal (eBin eqD (eVar 6) (eC (.int 0)))) (sSeq (sSet 7 (eCall F__law_odd [(eVar 1), (eBin ixD (eVar 2) (eC (.int 0)))])) (sSeq (sIf (tOr (tVal (eBin isNotD (eCall F_is_place [(eVar 7)]) (eC (.bl false)))) (tVal (eBin neD (eCall F__law_one [(eVar 7)]) (eC (.str "refused"))))) (sRet (eC (.bl false))) sNext) (sMut 3 insF [(eVar 5), (eLst [(eC (.bl true)), (eVar 7)])]))) (sIf (tVal (eBin eqD (eVar 6) (eC (.int 1)))) (sApp 3 (eLst [(eC (.bl false)), (eBin ixD (eVar 2) (eCall F__law_take [(eVar 1), (eCall (un1 lenD) [(eVar 2)])]))])) (sMut 3 popAtF [(eVar 5)])))))
theorem B_law_0_w {ρ : FL.Env} {w : Wd} : B_law_0 ρ w = (sSeq (sSet 5 (eCall F__law_take [(eVar 1), (eBor (eCall (un1 lenD) [(eVar 3)]))])) (sSeq (sSet 6 (eCall F__law_take [(eVar 1), (eC (.int 3))])) (sIf (tVal (eBin eqD (eVar 6) (eC (.int 0)))) (sSeq (sSet 7 (eCall F__law_odd [(eVar 1), (eBin ixD (eVar 2) (eC (.int 0)))])) (sSeq (sIf (tOr (tVal (eBin isNotD (eCall F_is_place [(eVar 7)]) (eC (.bl false)))) (tVal (eBin neD (eCall F__law_one [(eVar 7)]) (eC (.str "refused"))))) (sRet (eC (.bl false))) sNext) (sMut 3 insF [(eVar 5), (eLst [(eC (.bl true)), (eVar 7)])]))) (sIf (tVal (eBin eqD (eVar 6) (eC (.int 1)))) (sApp 3 (eLst [(eC (.bl false)), (eBin ixD (eVar 2) (eCall F__law_take [(eVar 1), (eCall (un1 lenD) [(eVar 2)])]))])) (sMut 3 popAtF [(eVar 5)]))))) ρ w := rfl
def B_law_1 : SF := (sSeq (sIf (tOr (tVal (eBin isNotD (eCall F_is_place [(eVar 13)]) (eC (.bl true)))) (tOr (tVal (eBin isNotD (eCall F_is_place [(eCall (un1 listD) [(eVar 13)])]) (eC (.bl true)))) (tVal (eBin neD (eCall F__law_one [(eCall (un1 listD) [(eVar 13)])]) (eVar 13))))) (sRet (eC (.bl false))) sNext) (sSeq (sIf (tVal (eBin neD (eCall F_shift_place [(eVar 13), (eVar 11)]) (eTup [(eCall F__law_plus [(eBin ixD (eVar 13) (eC (.int 0))), (eBin ixD (eVar 11) (eC (.int 0)))]), (eCall F__law_plus [(eBin ixD (eVar 13) (eC (.int 1))), (eBin ixD (eVar 11) (eC (.int 1)))])]))) (sRet (eC (.bl false))) sNext) (sSeq (sIf (tOr (tVal (eBin neD (eCall F_turn_place [(eVar 13)]) (eTup [(eTup [(eUn negD (eBin ixD (eBin ixD (eVar 13) (eC (.int 1))) (eC (.int 0)))), (eBin ixD (eBin ixD (eVar 13) (eC (.int 1))) (eC (.int 1)))]), (eBin ixD (eVar 13) (eC (.int 0)))]))) (tVal (eBin neD (eCall F_mirror_place [(eVar 13)]) (eTup [(eTup [(eUn negD (eBin ixD (eBin ixD (eVar 13) (eC (.int 0))) (eC (.int 0)))), (eBin ixD (eBin ixD (eVar 13) (eC (.int 0))) (eC (.int 1)))]), (eBin ixD (eVar 13) (eC (.int 1)))])))) (sRet (eC (.bl false))) sNext) (sIf (tVal (eBin neD (eCall F_stretch_place [(eVar 13), (eVar 12)]) (eTup [(eCall F__law_times [(eBin ixD (eVar 13) (eC (.int 0))), (eVar 12)]), (eCall F__law_times [(eBin ixD (eVar 13) (eC (.int 1))), (eVar 12)])]))) (sRet (eC (.bl false))) sNext))))
theorem B_law_1_w {ρ : FL.Env} {w : Wd} : B_law_1 ρ w = (sSeq (sIf (tOr (tVal (eBin isNotD (eCall F_is_place [(eVar 13)]) (eC (.bl true)))) (tOr (tVal (eBin isNotD (eCall F_is_place [(eCall (un1 listD) [(eVar 13)])]) (eC (.bl true)))) (tVal (eBin neD (eCall F__law_one [(eCall (un1 listD) [(eVar 13)])]) (eVar 13))))) (sRet (eC (.bl false))) sNext) (sSeq (sIf (tVal (eBin neD (eCall F_shift_place [(eVar 13), (eVar 11)]) (eTup [(eCall F__law_plus [(eBin ixD (eVar 13) (eC (.int 0))), (eBin ixD (eVar 11) (eC (.int 0)))]), (eCall F__law_plus [(eBin ixD (eVar 13) (eC (.int 1))), (eBin ixD (eVar 11) (eC (.int 1)))])]))) (sRet (eC (.bl false))) sNext) (sSeq (sIf (tOr (tVal (eBin neD (eCall F_turn_place [(eVar 13)]) (eTup [(eTup [(eUn negD (eBin ixD (eBin ixD (eVar 13) (eC (.int 1))) (eC (.int 0)))), (eBin ixD (eBin ixD (eVar 13) (eC (.int 1))) (eC (.int 1)))]), (eBin ixD (eVar 13) (eC (.int 0)))]))) (tVal (eBin neD (eCall F_mirror_place [(eVar 13)]) (eTup [(eTup [(eUn negD (eBin ixD (eBin ixD (eVar 13) (eC (.int 0))) (eC (.int 0)))), (eBin ixD (eBin ixD (eVar 13) (eC (.int 0))) (eC (.int 1)))]), (eBin ixD (eVar 13) (eC (.int 1)))])))) (sRet (eC (.bl false))) sNext) (sIf (tVal (eBin neD (eCall F_stretch_place [(eVar 13), (eVar 12)]) (eTup [(eCall F__law_times [(eBin ixD (eVar 13) (eC (.int 0))), (eVar 12)]), (eCall F__law_times [(eBin ixD (eVar 13) (eC (.int 1))), (eVar 12)])]))) (sRet (eC (.bl false))) sNext)))) ρ w := rfl
def B_law_2 : SF := (sSeq (sSet 17 (eCall F__law_cross [(eBin ixD (eVar 2) (eC (.int 0))), (eVar 15), (eVar 16)])) (sSeq (sIf (tOr (tVal (eBin neD (eCall F_cross_of [(eBin ixD (eVar 2) (eC (.int 0))), (eVar 15), (eVar 16)]) (eVar 17))) (tNot (tTru (eCall (F__law_tuples 6) [(eCall F_cross_of [(eVar 16), (eVar 15), (eBin ixD (eVar 2) (eC (.int 0)))])])))) (sRet (eC (.bl false))) sNext) (sSet 14 (eAnd (eVar 14) (eBin eqD (eVar 17) (eTup [(eC (.int 0)), (eC (.int 1))]))))))
theorem B_law_2_w {ρ : FL.Env} {w : Wd} : B_law_2 ρ w = (sSeq (sSet 17 (eCall F__law_cross [(eBin ixD (eVar 2) (eC (.int 0))), (eVar 15), (eVar 16)])) (sSeq (sIf (tOr (tVal (eBin neD (eCall F_cross_of [(eBin ixD (eVar 2) (eC (.int 0))), (eVar 15), (eVar 16)]) (eVar 17))) (tNot (tTru (eCall (F__law_tuples 6) [(eCall F_cross_of [(eVar 16), (eVar 15), (eBin ixD (eVar 2) (eC (.int 0)))])])))) (sRet (eC (.bl false))) sNext) (sSet 14 (eAnd (eVar 14) (eBin eqD (eVar 17) (eTup [(eC (.int 0)), (eC (.int 1))])))))) ρ w := rfl
def B_law_3 : SF := (sFor (iSeq (eVar 2)) (gN 16) B_law_2)
theorem B_law_3_w {ρ : FL.Env} {w : Wd} : B_law_3 ρ w = (sFor (iSeq (eVar 2)) (gN 16) B_law_2) ρ w := rfl
def B_law_4 : SF := (sSeq (sSet 20 (eIf (tAnd (tTru (eUn (isiB [.int]) (eVar 19))) (tAnd (tNot (tTru (eUn (isiB [.bool]) (eVar 19)))) (tVal (eChain leD ltD (eC (.int 0)) (eVar 19) (eVar 18))))) (eVar 19) (eC (.str "refused")))) (sIf (tVal (eBin neD (eCall F__law_leg [(eVar 2), (eVar 19)]) (eVar 20))) (sRet (eC (.bl false))) sNext))
theorem B_law_4_w {ρ : FL.Env} {w : Wd} : B_law_4 ρ w = (sSeq (sSet 20 (eIf (tAnd (tTru (eUn (isiB [.int]) (eVar 19))) (tAnd (tNot (tTru (eUn (isiB [.bool]) (eVar 19)))) (tVal (eChain leD ltD (eC (.int 0)) (eVar 19) (eVar 18))))) (eVar 19) (eC (.str "refused")))) (sIf (tVal (eBin neD (eCall F__law_leg [(eVar 2), (eVar 19)]) (eVar 20))) (sRet (eC (.bl false))) sNext)) ρ w := rfl
def F_law : List D → M D := callF 22 (sSeq (sSet 1 (eCall F__law_hand [(eVar 0)])) (sSeq (sSet 2 (eCall F__law_spots [(eVar 1), (eBin addD (eC (.int 2)) (eCall F__law_take [(eVar 1), (eC (.int 5))])), (eBin eqD (eCall F__law_take [(eVar 1), (eC (.int 3))]) (eC (.int 0)))])) (sSeq (sOwn 3 (nLc (iSeq (eVar 2)) [13] (gN 13) tYes (eLst [(eC (.bl false)), (eVar 13)]))) (sSeq (sFor (iRng (eC (.int 0)) (eCall F__law_take [(eVar 1), (eC (.int 3))])) (gN 4) B_law_0) (sSeq (sFrz 3) (sSeq (sSet 8 (eNew (nLc (iSeq (eVar 3)) [21] (gN 21) tYes (eIf (tOr (tTru (eBin ixD (eVar 21) (eC (.int 0)))) (tTru (eCall F__law_take [(eVar 1), (eC (.int 2))]))) (eBin ixD (eVar 21) (eC (.int 1))) (eCall (un1 listD) [(eBin ixD (eVar 21) (eC (.int 1)))]))))) (sSeq (sSet 9 (eCall reprL [(eVar 8)])) (sSeq (sSet 10 (eCall F__law_try [(eIf (tTru (eCall F__law_take [(eVar 1), (eC (.int 2))])) (eVar 8) (eCall (un1 tupD) [(eVar 8)]))])) (sSeq (sIf (tOr (tVal (eBin neD (eVar 10) (eCall F__law_due [(eVar 3)]))) (tVal (eBin neD (eCall reprL [(eVar 8)]) (eVar 9)))) (sRet (eC (.bl false))) sNext) (sSeq (sIf (tOr (tVal (eBin neD (eCall F__law_try [(eC .non)]) (eTup [(eC (.int 0)), (eC (.str "many"))]))) (tVal (eBin neD (eCall F__law_try [(eC (.str "ab"))]) (eTup [(eC (.int 0)), (eC (.str "many"))])))) (sRet (eC (.bl false))) sNext) (sSeq (sIf (tOr (tVal (eBin neD (eCall F__law_try [(eVar 2)]) (eCall (un1 tupD) [(eVar 2)]))) (tNot (tTru (eCall (F__law_tuples 6) [(eCall F__law_try [(eNew (nLc (iSeq (eVar 2)) [13] (gN 13) tYes (eCall (un1 listD) [(eVar 13)])))])])))) (sRet (eC (.bl false))) sNext) (sSeq (sSet 11 (eBin ixD (eCall F__law_spots [(eVar 1), (eC (.int 2)), (eC (.bl false))]) (eC (.int 0)))) (sSeq (sSet 12 (eCall F__law_arm [(eVar 1)])) (sSeq (sFor (iSeq (eVar 2)) (gN 13) B_law_1) (sSeq (sSet 14 (eC (.bl true))) (sSeq (sFor (iSeq (eVar 2)) (gN 15) B_law_3) (sSeq (sIf (tOr (tVal (eBin neD (eCall F_in_row [(eVar 2)]) (eVar 14))) (tOr (tNot (tTru (eUn (isiB [.bool]) (eCall F_in_row [(eVar 2)])))) (tOr (tVal (eBin isNotD (eCall F_in_row [(eSlice (eVar 2) none (some (eC (.int 2))))]) (eC (.bl true)))) (tVal (eBin isNotD (eCall F_in_row [(eSlice (eVar 2) none (some (eC (.int 1))))]) (eC (.bl true))))))) (sRet (eC (.bl false))) sNext) (sSeq (sSet 18 (eCall (un1 lenD) [(eVar 2)])) (sSeq (sFor (iSeq (eLst [(eUn negD (eC (.int 1))), (eVar 18), (eC (.bl true)), (eC .non), (eTup [(eC (.int 0)), (eC (.int 1))]), (eC (.int 0)), (eBin subD (eVar 18) (eC (.int 1))), (eCall F__law_take [(eVar 1), (eVar 18)])])) (gN 19) B_law_4) (sRet (eC (.bl true))))))))))))))))))))))
theorem has_law (T : Tx K mg cm) (G__law_arm : FL.Has P w K mg base cm "_law_arm" 5 ["hand"] [[]] [] 1 F__law_arm) (G__law_cross : FL.Has P w K mg base cm "_law_cross" 5 ["one", "two", "three"] [[]] [] 3 F__law_cross) (G__law_due : FL.Has P w K mg base cm "_law_due" 2 ["places"] [[]] [] 1 F__law_due) (G__law_hand : FL.Has P w K mg base cm "_law_hand" 2 ["script"] [[]] [] 1 F__law_hand) (G__law_leg : FL.Has P w K mg base cm "_law_leg" 4 ["legs", "leg"] [[]] [] 2 F__law_leg) (G__law_odd : FL.Has P w K mg base cm "_law_odd" 4 ["hand", "place"] [[]] [] 2 F__law_odd) (G__law_one : FL.Has P w K mg base cm "_law_one" 9 ["thing"] [[]] [] 1 F__law_one) (G__law_plus : FL.Has P w K mg base cm "_law_plus" 4 ["one", "other"] [[]] [] 2 F__law_plus) (G__law_spots : FL.Has P w K mg base cm "_law_spots" 6 ["hand", "many", "great"] [[]] [] 3 F__law_spots) (G__law_take : FL.Has P w K mg base cm "_law_take" 3 ["hand", "many"] [[]] [] 2 F__law_take) (G__law_times : FL.Has P w K mg base cm "_law_times" 4 ["one", "other"] [[]] [] 2 F__law_times) (G__law_try : FL.Has P w K mg base cm "_law_try" 7 ["places"] [[]] [] 1 F__law_try) (G__law_tuples : ∀ n, FL.Has P w K mg base cm "_law_tuples" (n + 2) ["thing"] [[]] [] 1 (F__law_tuples n)) (G_cross_of : FL.Has P w K mg base cm "cross_of" 4 ["one", "two", "three"] [[]] [] 3 F_cross_of) (G_in_row : FL.Has P w K mg base cm "in_row" 5 ["places"] [[]] [] 1 F_in_row) (G_is_place : FL.Has P w K mg base cm "is_place" 5 ["thing"] [[]] [] 1 F_is_place) (G_mirror_place : FL.Has P w K mg base cm "mirror_place" 3 ["place"] [[]] [] 1 F_mirror_place) (G_shift_place : FL.Has P w K mg base cm "shift_place" 4 ["place", "by"] [[]] [] 2 F_shift_place) (G_stretch_place : FL.Has P w K mg base cm "stretch_place" 4 ["place", "size"] [[]] [] 2 F_stretch_place) (G_turn_place : FL.Has P w K mg base cm "turn_place" 3 ["place"] [[]] [] 1 F_turn_place) (f : Addr) (fd : FuncData) (at_ : FL.DefAt K mg "law" s_law [] f fd) : FL.TopOk P w K mg base f fd "script" (FL.spX K cm 1 F_law) :=
  FL.top_of at_.F sc_law (by decide) ⟨rfl, by decide, by decide⟩ (k := 9) (fun cdv s H E q hr => by have tk : L2N.Takes (L2.cxOf (L2N.CX P w) P w K mg base N_law "law" (L2.defScope s_law) f cdv callerA [] s H E) (fun cls d _ H' => E cls d H') := L2N.takes_of rfl rfl rfl rfl; have pa : PassesOwn (model P w) (L2.cxOf (L2N.CX P w) P w K mg base N_law "law" (L2.defScope s_law) f cdv callerA [] s H E).A (L2.cxOf (L2N.CX P w) P w K mg base N_law "law" (L2.defScope s_law) f cdv callerA [] s H E).env (L2.cxOf (L2N.CX P w) P w K mg base N_law "law" (L2.defScope s_law) f cdv callerA [] s H E).xe := L2.passes_of rfl; exact (FL.pssx_cons (FL.psx_set sc_law.nd (i := 1) rfl (by first | exact Or.inl rfl | exact Or.inr rfl) (FL.px_has G__law_hand (hr.mono (by decide)) tk (by rfl) (FL.pax_cons (FL.px_var 0) FL.pax_nil))) (FL.pssx_cons (FL.psx_set sc_law.nd (i := 2) rfl (by first | exact Or.inl rfl | exact Or.inr rfl) (FL.px_has G__law_spots (hr.mono (by decide)) tk (by rfl) (FL.pax_cons (FL.px_var 1) (FL.pax_cons (FL.px_bin FL.op_addA FL.add_ok FL.px_int (FL.px_has G__law_take (hr.mono (by decide)) tk (by rfl) (FL.pax_cons (FL.px_var 1) (FL.pax_cons FL.px_int FL.pax_nil)))) (FL.pax_cons (FL.px_cmp (L2.op_eqD (FL.hu64 hr)) FL.eq_ok (FL.px_has G__law_take (hr.mono (by decide)) tk (by rfl) (FL.pax_cons (FL.px_var 1) (FL.pax_cons FL.px_int FL.pax_nil))) FL.px_int (L2.nomark _)) FL.pax_nil))))) (FL.pssx_cons (FL.psx_ownLc (i := 3) (own := [("place", 13)]) rfl sc_law.nd rfl rfl (L2.sw_true rfl rfl rfl (by decide +kernel)) (FL.pix_any (FL.px_var 2)) (L2.blkOk_by (N := N_law) (sc := L2.defScope s_law) (by decide +kernel)) rfl (fun _ _ _ _ _ => (L2.pg_name (i := 13) sc_law.nd rfl (by first | exact Or.inl rfl | exact Or.inr rfl))) (FL.tgx_n 13) (fun _ _ _ _ _ => FL.ptsx0) (fun _ _ _ _ _ => (FL.px_lst (FL.pax_cons FL.px_bl (FL.pax_cons (FL.px_var 13) FL.pax_nil))))) (FL.pssx_cons (FL.psx_for pa rfl (FL.pix_range1 (by rfl) T.n_range (FL.px_has G__law_take (hr.mono (by decide)) tk (by rfl) (FL.pax_cons (FL.px_var 1) (FL.pax_cons FL.px_int FL.pax_nil)))) (L2.pg_name (i := 4) sc_law.nd rfl (by first | exact Or.inl rfl | exact Or.inr rfl)) (FL.tgx_n 4) (FL.pssx_cons (FL.psx_set sc_law.nd (i := 5) rfl (by first | exact Or.inl rfl | exact Or.inr rfl) (FL.px_has G__law_take (hr.mono (by decide)) tk (by rfl) (FL.pax_cons (FL.px_var 1) (FL.pax_cons (FL.px_bor (FL.px_callB L2.call_len FL.len_ok (by rfl) T.n_len FL.bt_len (FL.pax_cons (FL.px_var 3) FL.pax_nil))) FL.pax_nil)))) (FL.pssx_cons (FL.psx_set sc_law.nd (i := 6) rfl (by first | exact Or.inl rfl | exact Or.inr rfl) (FL.px_has G__law_take (hr.mono (by decide)) tk (by rfl) (FL.pax_cons (FL.px_var 1) (FL.pax_cons FL.px_int FL.pax_nil)))) (FL.pssx_one (FL.psx_if (FL.ptx_cmp (L2.op_eqD (FL.hu64 hr)) FL.eq_ok (FL.px_var 6) FL.px_int (L2.nomark _)) (FL.pssx_cons (FL.psx_set sc_law.nd (i := 7) rfl (by first | exact Or.inl rfl | exact Or.inr rfl) (FL.px_has G__law_odd (hr.mono (by decide)) tk (by rfl) (FL.pax_cons (FL.px_var 1) (FL.pax_cons (FL.px_ix (FL.px_var 2) FL.px_int) FL.pax_nil)))) (FL.pssx_cons (FL.psx_if (FL.PWX.pt (FL.pwx_or (FL.ptx_cmp L2.op_notBl FL.isNot_ok (FL.px_has G_is_place (hr.mono (by decide)) tk (by rfl) (FL.pax_cons (FL.px_var 7) FL.pax_nil)) FL.px_bl (L2.nomark _)) (FL.pwx_or1 (FL.ptx_cmp (L2.op_neD (FL.hu64 hr)) FL.ne_ok (FL.px_has G__law_one (hr.mono (by decide)) tk (by rfl) (FL.pax_cons (FL.px_var 7) FL.pax_nil)) FL.px_str (L2.nomark _))))) (FL.pssx_one (FL.psx_ret FL.px_bl)) FL.pssx_nil) (FL.pssx_one (FL.psx_mut 3 FL.ins_ok PySem.F.slot_list_insert PySem.F.type_list_insert L2.mt_insert (FL.pax_cons (FL.px_var 5) (FL.pax_cons (FL.px_lst (FL.pax_cons FL.px_bl (FL.pax_cons (FL.px_var 7) FL.pax_nil))) FL.pax_nil)))))) (FL.pssx_one (FL.psx_if (FL.ptx_cmp (L2.op_eqD (FL.hu64 hr)) FL.eq_ok (FL.px_var 6) FL.px_int (L2.nomark _)) (FL.pssx_one (FL.psx_appE 3 (FL.px_lst (FL.pax_cons FL.px_bl (FL.pax_cons (FL.px_ix (FL.px_var 2) (FL.px_has G__law_take (hr.mono (by decide)) tk (by rfl) (FL.pax_cons (FL.px_var 1) (FL.pax_cons (FL.px_callB L2.call_len FL.len_ok (by rfl) T.n_len FL.bt_len (FL.pax_cons (FL.px_var 2) FL.pax_nil)) FL.pax_nil)))) FL.pax_nil))))) (FL.pssx_one (FL.psx_mut 3 FL.popAt_ok PySem.F.slot_list_pop PySem.F.type_list_pop L2.mt_popAt (FL.pax_cons (FL.px_var 5) FL.pax_nil)))))))))) (FL.pssx_frz 3 (FL.pssx_cons (FL.psx_setLc (i := 8) (own := [("row", 21)]) rfl sc_law.nd rfl rfl (L2.sw_true rfl rfl rfl (by decide +kernel)) (FL.pix_any (FL.px_var 3)) (L2.blkOk_by (N := N_law) (sc := L2.defScope s_law) (by decide +kernel)) rfl (fun _ _ _ _ _ => (L2.pg_name (i := 21) sc_law.nd rfl (by first | exact Or.inl rfl | exact Or.inr rfl))) (FL.tgx_n 21) (fun _ _ _ _ _ => FL.ptsx0) (fun _ _ _ _ _ => (FL.px_if (FL.PWX.pt (FL.pwx_or (FL.ptx_tru (FL.px_ix (FL.px_var 21) FL.px_int)) (FL.pwx_or1 (FL.ptx_tru (FL.px_has G__law_take (hr.mono (by decide)) FL.takes0N (by rfl) (FL.pax_cons (FL.px_var 1) (FL.pax_cons FL.px_int FL.pax_nil))))))) (FL.px_ix (FL.px_var 21) FL.px_int) (FL.px_callTy L2.call_list_of FL.list_ok (by rfl) T.n_list FL.bt_list (FL.pax_cons (FL.px_ix (FL.px_var 21) FL.px_int) FL.pax_nil))))) (FL.pssx_cons (FL.psx_set sc_law.nd (i := 9) rfl (by first | exact Or.inl rfl | exact Or.inr rfl) (FL.px_repr (by rfl) (FL.hu64 hr) (by rfl) T.n_repr (FL.px_var 8))) (FL.pssx_cons (FL.psx_set sc_law.nd (i := 10) rfl (by first | exact Or.inl rfl | exact Or.inr rfl) (FL.px_has G__law_try (hr.mono (by decide)) tk (by rfl) (FL.pax_cons (FL.px_if (FL.ptx_tru (FL.px_has G__law_take (hr.mono (by decide)) tk (by rfl) (FL.pax_cons (FL.px_var 1) (FL.pax_cons FL.px_int FL.pax_nil)))) (FL.px_var 8) (FL.px_callTy L2.call_tuple_of FL.tuple_ok (by rfl) T.n_tuple FL.bt_tuple (FL.pax_cons (FL.px_var 8) FL.pax_nil))) FL.pax_nil))) (FL.pssx_cons (FL.psx_if (FL.PWX.pt (FL.pwx_or (FL.ptx_cmp (L2.op_neD (FL.hu64 hr)) FL.ne_ok (FL.px_var 10) (FL.px_has G__law_due (hr.mono (by decide)) tk (by rfl) (FL.pax_cons (FL.px_var 3) FL.pax_nil)) (L2.nomark _)) (FL.pwx_or1 (FL.ptx_cmp (L2.op_neD (FL.hu64 hr)) FL.ne_ok (FL.px_repr (by rfl) (FL.hu64 hr) (by rfl) T.n_repr (FL.px_var 8)) (FL.px_var 9) (L2.nomark _))))) (FL.pssx_one (FL.psx_ret FL.px_bl)) FL.pssx_nil) (FL.pssx_cons (FL.psx_if (FL.PWX.pt (FL.pwx_or (FL.ptx_cmp (L2.op_neD (FL.hu64 hr)) FL.ne_ok (FL.px_has G__law_try (hr.mono (by decide)) tk (by rfl) (FL.pax_cons FL.px_non FL.pax_nil)) (FL.px_tup (FL.pax_cons FL.px_int (FL.pax_cons FL.px_str FL.pax_nil))) (L2.nomark _)) (FL.pwx_or1 (FL.ptx_cmp (L2.op_neD (FL.hu64 hr)) FL.ne_ok (FL.px_has G__law_try (hr.mono (by decide)) tk (by rfl) (FL.pax_cons FL.px_str FL.pax_nil)) (FL.px_tup (FL.pax_cons FL.px_int (FL.pax_cons FL.px_str FL.pax_nil))) (L2.nomark _))))) (FL.pssx_one (FL.psx_ret FL.px_bl)) FL.pssx_nil) (FL.pssx_cons (FL.psx_if (FL.PWX.pt (FL.pwx_or (FL.ptx_cmp (L2.op_neD (FL.hu64 hr)) FL.ne_ok (FL.px_has G__law_try (hr.mono (by decide)) tk (by rfl) (FL.pax_cons (FL.px_var 2) FL.pax_nil)) (FL.px_callTy L2.call_tuple_of FL.tuple_ok (by rfl) T.n_tuple FL.bt_tuple (FL.pax_cons (FL.px_var 2) FL.pax_nil)) (L2.nomark _)) (FL.pwx_or1 (FL.ptx_not (FL.ptx_tru (FL.px_has (G__law_tuples 6) (hr.mono (by decide)) tk (by rfl) (FL.pax_cons (FL.px_has G__law_try (hr.mono (by decide)) tk (by rfl) (FL.pax_cons (FL.px_new (FL.pnx_lcE (own := [("place", 13)]) rfl sc_law.nd (FL.pix_any (FL.px_var 2)) (L2.blkOk_by (N := N_law) (sc := L2.defScope s_law) (by decide +kernel)) rfl (fun _ _ _ _ _ => (L2.pg_name (i := 13) sc_law.nd rfl (by first | exact Or.inl rfl | exact Or.inr rfl))) (FL.tgx_n 13) (fun _ _ _ _ _ => FL.ptsx0) (fun _ _ _ _ _ => (FL.px_callTy L2.call_list_of FL.list_ok (by rfl) T.n_list FL.bt_list (FL.pax_cons (FL.px_var 13) FL.pax_nil))))) FL.pax_nil)) FL.pax_nil))))))) (FL.pssx_one (FL.psx_ret FL.px_bl)) FL.pssx_nil) (FL.pssx_cons (FL.psx_set sc_law.nd (i := 11) rfl (by first | exact Or.inl rfl | exact Or.inr rfl) (FL.px_ix (FL.px_has G__law_spots (hr.mono (by decide)) tk (by rfl) (FL.pax_cons (FL.px_var 1) (FL.pax_cons FL.px_int (FL.pax_cons FL.px_bl FL.pax_nil)))) FL.px_int)) (FL.pssx_cons (FL.psx_set sc_law.nd (i := 12) rfl (by first | exact Or.inl rfl | exact Or.inr rfl) (FL.px_has G__law_arm (hr.mono (by decide)) tk (by rfl) (FL.pax_cons (FL.px_var 1) FL.pax_nil))) (FL.pssx_cons (FL.psx_for pa rfl (FL.pix_any (FL.px_var 2)) (L2.pg_name (i := 13) sc_law.nd rfl (by first | exact Or.inl rfl | exact Or.inr rfl)) (FL.tgx_n 13) (FL.pssx_cons (FL.psx_if (FL.PWX.pt (FL.pwx_or (FL.ptx_cmp L2.op_notBl FL.isNot_ok (FL.px_has G_is_place (hr.mono (by decide)) tk (by rfl) (FL.pax_cons (FL.px_var 13) FL.pax_nil)) FL.px_bl (L2.nomark _)) (FL.pwx_or (FL.ptx_cmp L2.op_notBl FL.isNot_ok (FL.px_has G_is_place (hr.mono (by decide)) tk (by rfl) (FL.pax_cons (FL.px_callTy L2.call_list_of FL.list_ok (by rfl) T.n_list FL.bt_list (FL.pax_cons (FL.px_var 13) FL.pax_nil)) FL.pax_nil)) FL.px_bl (L2.nomark _)) (FL.pwx_or1 (FL.ptx_cmp (L2.op_neD (FL.hu64 hr)) FL.ne_ok (FL.px_has G__law_one (hr.mono (by decide)) tk (by rfl) (FL.pax_cons (FL.px_callTy L2.call_list_of FL.list_ok (by rfl) T.n_list FL.bt_list (FL.pax_cons (FL.px_var 13) FL.pax_nil)) FL.pax_nil)) (FL.px_var 13) (L2.nomark _)))))) (FL.pssx_one (FL.psx_ret FL.px_bl)) FL.pssx_nil) (FL.pssx_cons (FL.psx_if (FL.ptx_cmp (L2.op_neD (FL.hu64 hr)) FL.ne_ok (FL.px_has G_shift_place (hr.mono (by decide)) tk (by rfl) (FL.pax_cons (FL.px_var 13) (FL.pax_cons (FL.px_var 11) FL.pax_nil))) (FL.px_tup (FL.pax_cons (FL.px_has G__law_plus (hr.mono (by decide)) tk (by rfl) (FL.pax_cons (FL.px_ix (FL.px_var 13) FL.px_int) (FL.pax_cons (FL.px_ix (FL.px_var 11) FL.px_int) FL.pax_nil))) (FL.pax_cons (FL.px_has G__law_plus (hr.mono (by decide)) tk (by rfl) (FL.pax_cons (FL.px_ix (FL.px_var 13) FL.px_int) (FL.pax_cons (FL.px_ix (FL.px_var 11) FL.px_int) FL.pax_nil))) FL.pax_nil))) (L2.nomark _)) (FL.pssx_one (FL.psx_ret FL.px_bl)) FL.pssx_nil) (FL.pssx_cons (FL.psx_if (FL.PWX.pt (FL.pwx_or (FL.ptx_cmp (L2.op_neD (FL.hu64 hr)) FL.ne_ok (FL.px_has G_turn_place (hr.mono (by decide)) tk (by rfl) (FL.pax_cons (FL.px_var 13) FL.pax_nil)) (FL.px_tup (FL.pax_cons (FL.px_tup (FL.pax_cons (FL.px_un L2.un_neg FL.neg_ok (FL.px_ix (FL.px_ix (FL.px_var 13) FL.px_int) FL.px_int)) (FL.pax_cons (FL.px_ix (FL.px_ix (FL.px_var 13) FL.px_int) FL.px_int) FL.pax_nil))) (FL.pax_cons (FL.px_ix (FL.px_var 13) FL.px_int) FL.pax_nil))) (L2.nomark _)) (FL.pwx_or1 (FL.ptx_cmp (L2.op_neD (FL.hu64 hr)) FL.ne_ok (FL.px_has G_mirror_place (hr.mono (by decide)) tk (by rfl) (FL.pax_cons (FL.px_var 13) FL.pax_nil)) (FL.px_tup (FL.pax_cons (FL.px_tup (FL.pax_cons (FL.px_un L2.un_neg FL.neg_ok (FL.px_ix (FL.px_ix (FL.px_var 13) FL.px_int) FL.px_int)) (FL.pax_cons (FL.px_ix (FL.px_ix (FL.px_var 13) FL.px_int) FL.px_int) FL.pax_nil))) (FL.pax_cons (FL.px_ix (FL.px_var 13) FL.px_int) FL.pax_nil))) (L2.nomark _))))) (FL.pssx_one (FL.psx_ret FL.px_bl)) FL.pssx_nil) (FL.pssx_one (FL.psx_if (FL.ptx_cmp (L2.op_neD (FL.hu64 hr)) FL.ne_ok (FL.px_has G_stretch_place (hr.mono (by decide)) tk (by rfl) (FL.pax_cons (FL.px_var 13) (FL.pax_cons (FL.px_var 12) FL.pax_nil))) (FL.px_tup (FL.pax_cons (FL.px_has G__law_times (hr.mono (by decide)) tk (by rfl) (FL.pax_cons (FL.px_ix (FL.px_var 13) FL.px_int) (FL.pax_cons (FL.px_var 12) FL.pax_nil))) (FL.pax_cons (FL.px_has G__law_times (hr.mono (by decide)) tk (by rfl) (FL.pax_cons (FL.px_ix (FL.px_var 13) FL.px_int) (FL.pax_cons (FL.px_var 12) FL.pax_nil))) FL.pax_nil))) (L2.nomark _)) (FL.pssx_one (FL.psx_ret FL.px_bl)) FL.pssx_nil)))))) (FL.pssx_cons (FL.psx_set sc_law.nd (i := 14) rfl (by first | exact Or.inl rfl | exact Or.inr rfl) FL.px_bl) (FL.pssx_cons (FL.psx_for pa rfl (FL.pix_any (FL.px_var 2)) (L2.pg_name (i := 15) sc_law.nd rfl (by first | exact Or.inl rfl | exact Or.inr rfl)) (FL.tgx_n 15) (FL.pssx_one (FL.psx_for pa rfl (FL.pix_any (FL.px_var 2)) (L2.pg_name (i := 16) sc_law.nd rfl (by first | exact Or.inl rfl | exact Or.inr rfl)) (FL.tgx_n 16) (FL.pssx_cons (FL.psx_set sc_law.nd (i := 17) rfl (by first | exact Or.inl rfl | exact Or.inr rfl) (FL.px_has G__law_cross (hr.mono (by decide)) tk (by rfl) (FL.pax_cons (FL.px_ix (FL.px_var 2) FL.px_int) (FL.pax_cons (FL.px_var 15) (FL.pax_cons (FL.px_var 16) FL.pax_nil))))) (FL.pssx_cons (FL.psx_if (FL.PWX.pt (FL.pwx_or (FL.ptx_cmp (L2.op_neD (FL.hu64 hr)) FL.ne_ok (FL.px_has G_cross_of (hr.mono (by decide)) tk (by rfl) (FL.pax_cons (FL.px_ix (FL.px_var 2) FL.px_int) (FL.pax_cons (FL.px_var 15) (FL.pax_cons (FL.px_var 16) FL.pax_nil)))) (FL.px_var 17) (L2.nomark _)) (FL.pwx_or1 (FL.ptx_not (FL.ptx_tru (FL.px_has (G__law_tuples 6) (hr.mono (by decide)) tk (by rfl) (FL.pax_cons (FL.px_has G_cross_of (hr.mono (by decide)) tk (by rfl) (FL.pax_cons (FL.px_var 16) (FL.pax_cons (FL.px_var 15) (FL.pax_cons (FL.px_ix (FL.px_var 2) FL.px_int) FL.pax_nil)))) FL.pax_nil))))))) (FL.pssx_one (FL.psx_ret FL.px_bl)) FL.pssx_nil) (FL.pssx_one (FL.psx_set sc_law.nd (i := 14) rfl (by first | exact Or.inl rfl | exact Or.inr rfl) (FL.px_and (FL.px_var 14) (FL.px_one (FL.px_cmp (L2.op_eqD (FL.hu64 hr)) FL.eq_ok (FL.px_var 17) (FL.px_tup (FL.pax_cons FL.px_int (FL.pax_cons FL.px_int FL.pax_nil))) (L2.nomark _))))))))))) (FL.pssx_cons (FL.psx_if (FL.PWX.pt (FL.pwx_or (FL.ptx_cmp (L2.op_neD (FL.hu64 hr)) FL.ne_ok (FL.px_has G_in_row (hr.mono (by decide)) tk (by rfl) (FL.pax_cons (FL.px_var 2) FL.pax_nil)) (FL.px_var 14) (L2.nomark _)) (FL.pwx_or (FL.ptx_not (FL.ptx_tru (FL.px_isi .bool (by rfl) T.n_isinstance (by rfl) T.n_bool FL.bt_bool (FL.px_has G_in_row (hr.mono (by decide)) tk (by rfl) (FL.pax_cons (FL.px_var 2) FL.pax_nil))))) (FL.pwx_or (FL.ptx_cmp L2.op_notBl FL.isNot_ok (FL.px_has G_in_row (hr.mono (by decide)) tk (by rfl) (FL.pax_cons (FL.px_slice (FL.px_var 2) FL.pox_none (FL.pox_some FL.px_int)) FL.pax_nil)) FL.px_bl (L2.nomark _)) (FL.pwx_or1 (FL.ptx_cmp L2.op_notBl FL.isNot_ok (FL.px_has G_in_row (hr.mono (by decide)) tk (by rfl) (FL.pax_cons (FL.px_slice (FL.px_var 2) FL.pox_none (FL.pox_some FL.px_int)) FL.pax_nil)) FL.px_bl (L2.nomark _))))))) (FL.pssx_one (FL.psx_ret FL.px_bl)) FL.pssx_nil) (FL.pssx_cons (FL.psx_set sc_law.nd (i := 18) rfl (by first | exact Or.inl rfl | exact Or.inr rfl) (FL.px_callB L2.call_len FL.len_ok (by rfl) T.n_len FL.bt_len (FL.pax_cons (FL.px_var 2) FL.pax_nil))) (FL.pssx_cons (FL.psx_for pa rfl (FL.pix_any (FL.px_lst (FL.pax_cons (FL.px_un L2.un_neg FL.neg_ok FL.px_int) (FL.pax_cons (FL.px_var 18) (FL.pax_cons FL.px_bl (FL.pax_cons FL.px_non (FL.pax_cons (FL.px_tup (FL.pax_cons FL.px_int (FL.pax_cons FL.px_int FL.pax_nil))) (FL.pax_cons FL.px_int (FL.pax_cons (FL.px_bin L2.op_sub FL.sub_ok (FL.px_var 18) FL.px_int) (FL.pax_cons (FL.px_has G__law_take (hr.mono (by decide)) tk (by rfl) (FL.pax_cons (FL.px_var 1) (FL.pax_cons (FL.px_var 18) FL.pax_nil))) FL.pax_nil)))))))))) (L2.pg_name (i := 19) sc_law.nd rfl (by first | exact Or.inl rfl | exact Or.inr rfl)) (FL.tgx_n 19) (FL.pssx_cons (FL.psx_set sc_law.nd (i := 20) rfl (by first | exact Or.inl rfl | exact Or.inr rfl) (FL.px_if (FL.PWX.pt (FL.pwx_and (FL.ptx_tru (FL.px_isi .int (by rfl) T.n_isinstance (by rfl) T.n_int FL.bt_int (FL.px_var 19))) (FL.pwx_and (FL.ptx_not (FL.ptx_tru (FL.px_isi .bool (by rfl) T.n_isinstance (by rfl) T.n_bool FL.bt_bool (FL.px_var 19)))) (FL.pwx_and1 (FL.ptx_chain L2.op_le FL.le_ok L2.op_lt FL.lt_ok FL.px_int (FL.px_var 19) (FL.px_var 18)))))) (FL.px_var 19) FL.px_str)) (FL.pssx_one (FL.psx_if (FL.ptx_cmp (L2.op_neD (FL.hu64 hr)) FL.ne_ok (FL.px_has G__law_leg (hr.mono (by decide)) tk (by rfl) (FL.pax_cons (FL.px_var 2) (FL.pax_cons (FL.px_var 19) FL.pax_nil))) (FL.px_var 20) (L2.nomark _)) (FL.pssx_one (FL.psx_ret FL.px_bl)) FL.pssx_nil)))) (FL.pssx_one (FL.psx_ret FL.px_bl))))))))))))))))))))))
theorem has_all (T : Tx K mg cm) : ∀ (f : Addr) (fd : FuncData), FL.DefAt K mg "law" s_law [] f fd → FL.TopOk P w K mg base f fd "script" (FL.spX K cm 1 F_law) := by
  have G__law_hand := has__law_hand (P := P) (w := w) (base := base) T 
  have G__law_mixed := has__law_mixed (P := P) (w := w) (base := base) T 
  have G__law_take := has__law_take (P := P) (w := w) (base := base) T G__law_mixed
  have G__law_unlike := has__law_unlike (P := P) (w := w) (base := base) T 
  have G__law_gcd := has__law_gcd (P := P) (w := w) (base := base) T 
  have G__law_ratio := has__law_ratio (P := P) (w := w) (base := base) T G__law_gcd
  have G__law_bounded := has__law_bounded (P := P) (w := w) (base := base) T G__law_take
  have G__law_coordinate := has__law_coordinate (P := P) (w := w) (base := base) T G__law_bounded G__law_ratio G__law_take
  have G__law_near := has__law_near (P := P) (w := w) (base := base) T G__law_ratio G__law_take
  have G__law_spots := has__law_spots (P := P) (w := w) (base := base) T G__law_coordinate G__law_near G__law_take G__law_unlike
  have G_is_whole := has_is_whole (P := P) (w := w) (base := base) T 
  have G_is_ratio := has_is_ratio (P := P) (w := w) (base := base) T G_is_whole
  have G_is_small := has_is_small (P := P) (w := w) (base := base) T G_is_ratio
  have G_is_place := has_is_place (P := P) (w := w) (base := base) T G_is_small
  have G_check_places := has_check_places (P := P) (w := w) (base := base) T G_is_place
  have G__law_try := has__law_try (P := P) (w := w) (base := base) T G_check_places
  have G__law_arm := has__law_arm (P := P) (w := w) (base := base) T G__law_bounded G__law_ratio G__law_take
  have G__law_odd := has__law_odd (P := P) (w := w) (base := base) T G__law_take
  have G__law_due := has__law_due (P := P) (w := w) (base := base) T 
  have G__law_tuples := has__law_tuples (P := P) (w := w) (base := base) T 
  have G__lowest := has__lowest (P := P) (w := w) (base := base) T 
  have G_plus := has_plus (P := P) (w := w) (base := base) T G__lowest
  have G_shift_place := has_shift_place (P := P) (w := w) (base := base) T G_plus
  have G_times := has_times (P := P) (w := w) (base := base) T G__lowest
  have G_stretch_place := has_stretch_place (P := P) (w := w) (base := base) T G_times
  have G__law_times := has__law_times (P := P) (w := w) (base := base) T G__law_ratio
  have G__law_minus := has__law_minus (P := P) (w := w) (base := base) T G__law_ratio
  have G__law_cross := has__law_cross (P := P) (w := w) (base := base) T G__law_minus G__law_times
  have G_minus := has_minus (P := P) (w := w) (base := base) T G__lowest
  have G_cross_of := has_cross_of (P := P) (w := w) (base := base) T G_minus G_times
  have G_in_row := has_in_row (P := P) (w := w) (base := base) T G_cross_of
  have G_check_leg := has_check_leg (P := P) (w := w) (base := base) T G_is_whole
  have G__law_leg := has__law_leg (P := P) (w := w) (base := base) T G_check_leg
  have G_check_place := has_check_place (P := P) (w := w) (base := base) T G_is_place
  have G__law_bare := has__law_bare (P := P) (w := w) (base := base) T 
  have GH__law_bare := hasH__law_bare (P := P) (w := w) (base := base) T 
  have G__law_one := has__law_one (P := P) (w := w) (base := base) T GH__law_bare G_check_place
  have G__law_plus := has__law_plus (P := P) (w := w) (base := base) T G__law_ratio
  have G_negative := has_negative (P := P) (w := w) (base := base) T 
  have G_turn_place := has_turn_place (P := P) (w := w) (base := base) T G_negative
  have G_mirror_place := has_mirror_place (P := P) (w := w) (base := base) T G_negative
  have G_law := has_law (P := P) (w := w) (base := base) T G__law_arm G__law_cross G__law_due G__law_hand G__law_leg G__law_odd G__law_one G__law_plus G__law_spots G__law_take G__law_times G__law_try G__law_tuples G_cross_of G_in_row G_is_place G_mirror_place G_shift_place G_stretch_place G_turn_place
  exact G_law
end
theorem law_mk {P : Program} {w : World} {K : PySem.W.Frag} {mg : Str → Option Value} (h : ∃ cm, Tx K mg cm) : ∃ (cm : Nat → Addr) (f : Addr) (fd : FuncData), mg "law" = some (.ref f) ∧ (∀ (s : Shared) (u : Value), BindsTo s fd ⟨[u], []⟩ [("script", u)]) ∧
    ∀ base : Heap, K.In base → base.Ns mainGlobals mg → FL.TopOk P w K mg base f fd "script" (spX K cm 1 F_law) := by
  obtain ⟨cm, T⟩ := h
  exact FL.law_finT (cm := cm) T.d_law (fun _ _ _ _ _ _ us hl => match us, hl with | [_], _ => rfl) fun base => has_all T
end K02

namespace K02
open PySem FL
open L2 (V Hp FnOk Vals Binds)
def dn_0 : FL.DefH := ⟨fun K => He.ma K (He.ga K "BadPlace") "__init__", "__init__", "BadPlace.__init__", L2.defArgs si_1, L2.defBody si_1, L2.defScope si_1, []⟩
def dn_1 : FL.DefH := ⟨fun K => He.ma K (He.ga K "BadPlaces") "__init__", "__init__", "BadPlaces.__init__", L2.defArgs si_2, L2.defBody si_2, L2.defScope si_2, []⟩
def dn_2 : FL.DefH := ⟨fun K => He.ma K (He.ga K "NoLeg") "__init__", "__init__", "NoLeg.__init__", L2.defArgs si_3, L2.defBody si_3, L2.defScope si_3, []⟩
def dn_3 : FL.DefH := ⟨fun K => He.ga K "_law_hand", "_law_hand", "_law_hand", L2.defArgs s__law_hand, L2.defBody s__law_hand, L2.defScope s__law_hand, []⟩
def dn_4 : FL.DefH := ⟨fun K => He.ga K "_law_mixed", "_law_mixed", "_law_mixed", L2.defArgs s__law_mixed, L2.defBody s__law_mixed, L2.defScope s__law_mixed, []⟩
def dn_5 : FL.DefH := ⟨fun K => He.ga K "_law_take", "_law_take", "_law_take", L2.defArgs s__law_take, L2.defBody s__law_take, L2.defScope s__law_take, []⟩
def dn_6 : FL.DefH := ⟨fun K => He.ga K "_law_unlike", "_law_unlike", "_law_unlike", L2.defArgs s__law_unlike, L2.defBody s__law_unlike, L2.defScope s__law_unlike, []⟩
def dn_7 : FL.DefH := ⟨fun K => He.ga K "_law_gcd", "_law_gcd", "_law_gcd", L2.defArgs s__law_gcd, L2.defBody s__law_gcd, L2.defScope s__law_gcd, []⟩
def dn_8 : FL.DefH := ⟨fun K => He.ga K "_law_ratio", "_law_ratio", "_law_ratio", L2.defArgs s__law_ratio, L2.defBody s__law_ratio, L2.defScope s__law_ratio, []⟩
def dn_9 : FL.DefH := ⟨fun K => He.ga K "_law_bounded", "_law_bounded", "_law_bounded", L2.defArgs s__law_bounded, L2.defBody s__law_bounded, L2.defScope s__law_bounded, []⟩
def dn_10 : FL.DefH := ⟨fun K => He.ga K "_law_coordinate", "_law_coordinate", "_law_coordinate", L2.defArgs s__law_coordinate, L2.defBody s__law_coordinate, L2.defScope s__law_coordinate, []⟩
def dn_11 : FL.DefH := ⟨fun K => He.ga K "_law_near", "_law_near", "_law_near", L2.defArgs s__law_near, L2.defBody s__law_near, L2.defScope s__law_near, []⟩
def dn_12 : FL.DefH := ⟨fun K => He.ga K "_law_spots", "_law_spots", "_law_spots", L2.defArgs s__law_spots, L2.defBody s__law_spots, L2.defScope s__law_spots, []⟩
def dn_13 : FL.DefH := ⟨fun K => He.ga K "is_whole", "is_whole", "is_whole", L2.defArgs s_is_whole, L2.defBody s_is_whole, L2.defScope s_is_whole, [.non, .non]⟩
def dn_14 : FL.DefH := ⟨fun K => He.ga K "is_ratio", "is_ratio", "is_ratio", L2.defArgs s_is_ratio, L2.defBody s_is_ratio, L2.defScope s_is_ratio, []⟩
def dn_15 : FL.DefH := ⟨fun K => He.ga K "is_small", "is_small", "is_small", L2.defArgs s_is_small, L2.defBody s_is_small, L2.defScope s_is_small, []⟩
def dn_16 : FL.DefH := ⟨fun K => He.ga K "is_place", "is_place", "is_place", L2.defArgs s_is_place, L2.defBody s_is_place, L2.defScope s_is_place, []⟩
def dn_17 : FL.DefH := ⟨fun K => He.ga K "check_places", "check_places", "check_places", L2.defArgs s_check_places, L2.defBody s_check_places, L2.defScope s_check_places, []⟩
def dn_18 : FL.DefH := ⟨fun K => He.ga K "_law_try", "_law_try", "_law_try", L2.defArgs s__law_try, L2.defBody s__law_try, L2.defScope s__law_try, []⟩
def dn_19 : FL.DefH := ⟨fun K => He.ga K "_law_arm", "_law_arm", "_law_arm", L2.defArgs s__law_arm, L2.defBody s__law_arm, L2.defScope s__law_arm, []⟩
def dn_20 : FL.DefH := ⟨fun K => He.ga K "_law_odd", "_law_odd", "_law_odd", L2.defArgs s__law_odd, L2.defBody s__law_odd, L2.defScope s__law_odd, []⟩
def dn_21 : FL.DefH := ⟨fun K => He.ga K "_law_due", "_law_due", "_law_due", L2.defArgs s__law_due, L2.defBody s__law_due, L2.defScope s__law_due, []⟩
def dn_22 : FL.DefH := ⟨fun K => He.ga K "_law_tuples", "_law_tuples", "_law_tuples", L2.defArgs s__law_tuples, L2.defBody s__law_tuples, L2.defScope s__law_tuples, []⟩
def dn_23 : FL.DefH := ⟨fun K => He.ga K "_lowest", "_lowest", "_lowest", L2.defArgs s__lowest, L2.defBody s__lowest, L2.defScope s__lowest, []⟩
def dn_24 : FL.DefH := ⟨fun K => He.ga K "plus", "plus", "plus", L2.defArgs s_plus, L2.defBody s_plus, L2.defScope s_plus, []⟩
def dn_25 : FL.DefH := ⟨fun K => He.ga K "shift_place", "shift_place", "shift_place", L2.defArgs s_shift_place, L2.defBody s_shift_place, L2.defScope s_shift_place, []⟩
def dn_26 : FL.DefH := ⟨fun K => He.ga K "times", "times", "times", L2.defArgs s_times, L2.defBody s_times, L2.defScope s_times, []⟩
def dn_27 : FL.DefH := ⟨fun K => He.ga K "stretch_place", "stretch_place", "stretch_place", L2.defArgs s_stretch_place, L2.defBody s_stretch_place, L2.defScope s_stretch_place, []⟩
def dn_28 : FL.DefH := ⟨fun K => He.ga K "_law_times", "_law_times", "_law_times", L2.defArgs s__law_times, L2.defBody s__law_times, L2.defScope s__law_times, []⟩
def dn_29 : FL.DefH := ⟨fun K => He.ga K "_law_minus", "_law_minus", "_law_minus", L2.defArgs s__law_minus, L2.defBody s__law_minus, L2.defScope s__law_minus, []⟩
def dn_30 : FL.DefH := ⟨fun K => He.ga K "_law_cross", "_law_cross", "_law_cross", L2.defArgs s__law_cross, L2.defBody s__law_cross, L2.defScope s__law_cross, []⟩
def dn_31 : FL.DefH := ⟨fun K => He.ga K "minus", "minus", "minus", L2.defArgs s_minus, L2.defBody s_minus, L2.defScope s_minus, []⟩
def dn_32 : FL.DefH := ⟨fun K => He.ga K "cross_of", "cross_of", "cross_of", L2.defArgs s_cross_of, L2.defBody s_cross_of, L2.defScope s_cross_of, []⟩
def dn_33 : FL.DefH := ⟨fun K => He.ga K "in_row", "in_row", "in_row", L2.defArgs s_in_row, L2.defBody s_in_row, L2.defScope s_in_row, []⟩
def dn_34 : FL.DefH := ⟨fun K => He.ga K "check_leg", "check_leg", "check_leg", L2.defArgs s_check_leg, L2.defBody s_check_leg, L2.defScope s_check_leg, []⟩
def dn_35 : FL.DefH := ⟨fun K => He.ga K "_law_leg", "_law_leg", "_law_leg", L2.defArgs s__law_leg, L2.defBody s__law_leg, L2.defScope s__law_leg, []⟩
def dn_36 : FL.DefH := ⟨fun K => He.ga K "check_place", "check_place", "check_place", L2.defArgs s_check_place, L2.defBody s_check_place, L2.defScope s_check_place, []⟩
def dn_37 : FL.DefH := ⟨fun K => He.ga K "_law_bare", "_law_bare", "_law_bare", L2.defArgs s__law_bare, L2.defBody s__law_bare, L2.defScope s__law_bare, []⟩
def dn_38 : FL.DefH := ⟨fun K => He.ga K "_law_one", "_law_one", "_law_one", L2.defArgs s__law_one, L2.defBody s__law_one, L2.defScope s__law_one, []⟩
def dn_39 : FL.DefH := ⟨fun K => He.ga K "_law_plus", "_law_plus", "_law_plus", L2.defArgs s__law_plus, L2.defBody s__law_plus, L2.defScope s__law_plus, []⟩
def dn_40 : FL.DefH := ⟨fun K => He.ga K "negative", "negative", "negative", L2.defArgs s_negative, L2.defBody s_negative, L2.defScope s_negative, []⟩
def dn_41 : FL.DefH := ⟨fun K => He.ga K "turn_place", "turn_place", "turn_place", L2.defArgs s_turn_place, L2.defBody s_turn_place, L2.defScope s_turn_place, []⟩
def dn_42 : FL.DefH := ⟨fun K => He.ga K "mirror_place", "mirror_place", "mirror_place", L2.defArgs s_mirror_place, L2.defBody s_mirror_place, L2.defScope s_mirror_place, []⟩
def dn_43 : FL.DefH := ⟨fun K => He.ga K "law", "law", "law", L2.defArgs s_law, L2.defBody s_law, L2.defScope s_law, []⟩
def cks_0 : List (PySem.W.Frag → Bool) := [FL.ckFree "abs", FL.ckFree "bool", FL.ckFree "enumerate", FL.ckFree "int", FL.ckFree "isinstance", FL.ckFree "len", FL.ckFree "list", FL.ckFree "range", FL.ckFree "repr", FL.ckFree "tuple", FL.ckInt "SMALL" 1000000000000, FL.ckTup "ZERO" 0 1, FL.ckGlo "BadPlace", FL.ckExc "BadPlace", FL.ckMeth "BadPlace" "__init__", FL.ckNoat "BadPlace" "place", FL.ckGlo "BadPlaces", FL.ckExc "BadPlaces", FL.ckMeth "BadPlaces" "__init__", FL.ckNoat "BadPlaces" "index", FL.ckNoat "BadPlaces" "what", FL.ckGlo "NoLeg", FL.ckExc "NoLeg", FL.ckMeth "NoLeg" "__init__", FL.ckNoat "NoLeg" "leg", FL.ckExm "BadPlace" "BadPlace" true, FL.ckExm "BadPlaces" "BadPlaces" true, FL.ckExm "NoLeg" "NoLeg" true, FL.ckXf "BadPlace", FL.ckXf "BadPlaces", FL.ckXf "NoLeg", FL.ckGlo "_law_hand", FL.ckGlo "_law_mixed", FL.ckGlo "_law_take", FL.ckGlo "_law_unlike", FL.ckGlo "_law_gcd", FL.ckGlo "_law_ratio", FL.ckGlo "_law_bounded", FL.ckGlo "_law_coordinate", FL.ckGlo "_law_near", FL.ckGlo "_law_spots", FL.ckGlo "is_whole", FL.ckGlo "is_ratio", FL.ckGlo "is_small", FL.ckGlo "is_place", FL.ckGlo "check_places", FL.ckGlo "_law_try", FL.ckGlo "_law_arm", FL.ckGlo "_law_odd", FL.ckGlo "_law_due", FL.ckGlo "_law_tuples", FL.ckGlo "_lowest", FL.ckGlo "plus", FL.ckGlo "shift_place", FL.ckGlo "times", FL.ckGlo "stretch_place", FL.ckGlo "_law_times", FL.ckGlo "_law_minus", FL.ckGlo "_law_cross", FL.ckGlo "minus", FL.ckGlo "cross_of", FL.ckGlo "in_row", FL.ckGlo "check_leg", FL.ckGlo "_law_leg", FL.ckGlo "check_place", FL.ckGlo "_law_bare", FL.ckGlo "_law_one", FL.ckGlo "_law_plus", FL.ckGlo "negative", FL.ckGlo "turn_place", FL.ckGlo "mirror_place", FL.ckGlo "law"]
def cks : List (PySem.W.Frag → Bool) := cks_0
def fns_0 : List FL.DefH := [dn_0, dn_1, dn_2, dn_3, dn_4, dn_5, dn_6, dn_7, dn_8, dn_9, dn_10, dn_11, dn_12, dn_13, dn_14, dn_15, dn_16, dn_17, dn_18, dn_19, dn_20, dn_21, dn_22, dn_23, dn_24, dn_25, dn_26, dn_27, dn_28, dn_29, dn_30, dn_31, dn_32, dn_33, dn_34, dn_35, dn_36, dn_37, dn_38, dn_39, dn_40, dn_41, dn_42, dn_43]
def fns : List FL.DefH := fns_0
def bls_0 : List (Str × String) := [("gcd", "math.gcd")]
def bls : List (Str × String) := bls_0
open L2 in
theorem all_mkH {K : PySem.W.Frag} {h : Heap} {mg : Str → Option Value} (X : K.In h) (G : h.Ns mainGlobals mg) (c : FL.SaysH cks fns bls K) : ∃ cm, Tx K mg cm :=
  ⟨fun k => match k with | 1 => He.ga K "BadPlace" | 2 => He.ga K "BadPlaces" | 3 => He.ga K "NoLeg"  | _ => 0, {
    g_gcd := PySem.W.mg_of X G (c.blt 0 (p := ("gcd", "math.gcd")) rfl)
    n_abs := FL.ckFree_ok X G (c.fact 0)
    n_bool := FL.ckFree_ok X G (c.fact 1)
    n_enumerate := FL.ckFree_ok X G (c.fact 2)
    n_int := FL.ckFree_ok X G (c.fact 3)
    n_isinstance := FL.ckFree_ok X G (c.fact 4)
    n_len := FL.ckFree_ok X G (c.fact 5)
    n_list := FL.ckFree_ok X G (c.fact 6)
    n_range := FL.ckFree_ok X G (c.fact 7)
    n_repr := FL.ckFree_ok X G (c.fact 8)
    n_tuple := FL.ckFree_ok X G (c.fact 9)
    c_SMALL := FL.ckInt_ok X G (c.fact 10)
    c_ZERO := FL.ckTup_ok X G (c.fact 11)
    x_1 := FL.ckGlo_ok X G (c.fact 12)
    exc_1 := FL.excG1 (st := si_1) (ps := ["self", "place"]) (d := dn_0) (FL.ckExc_ok (c.fact 13)) (FL.ckMeth_ok (c.fact 14)) rfl (c.def_ 0 (d := dn_0) rfl) rfl rfl rfl rfl rfl rfl ⟨rfl, rfl, rfl, by decide +kernel, rfl, by decide +kernel, by decide +kernel⟩ rfl (FL.ckGlo_ok X G (c.fact 12)) (FL.ckNoat_ok (c.fact 15)) rfl (fun _ _ _ _ _ _ us hl => match us, hl with | [_, _], _ => rfl)
    x_2 := FL.ckGlo_ok X G (c.fact 16)
    exc_2 := FL.excG2 (st := si_2) (ps := ["self", "index", "what"]) (d := dn_1) (FL.ckExc_ok (c.fact 17)) (FL.ckMeth_ok (c.fact 18)) rfl (c.def_ 1 (d := dn_1) rfl) rfl rfl rfl rfl rfl rfl ⟨rfl, rfl, rfl, by decide +kernel, rfl, by decide +kernel, by decide +kernel⟩ rfl (FL.ckGlo_ok X G (c.fact 16)) (FL.ckNoat_ok (c.fact 19)) (FL.ckNoat_ok (c.fact 20)) rfl (fun _ _ _ _ _ _ us hl => match us, hl with | [_, _, _], _ => rfl)
    x_3 := FL.ckGlo_ok X G (c.fact 21)
    exc_3 := FL.excG1 (st := si_3) (ps := ["self", "leg"]) (d := dn_2) (FL.ckExc_ok (c.fact 22)) (FL.ckMeth_ok (c.fact 23)) rfl (c.def_ 2 (d := dn_2) rfl) rfl rfl rfl rfl rfl rfl ⟨rfl, rfl, rfl, by decide +kernel, rfl, by decide +kernel, by decide +kernel⟩ rfl (FL.ckGlo_ok X G (c.fact 21)) (FL.ckNoat_ok (c.fact 24)) rfl (fun _ _ _ _ _ _ us hl => match us, hl with | [_, _], _ => rfl)
    em_1_1 := FL.ckExm_ok (c.fact 25)
    em_2_2 := FL.ckExm_ok (c.fact 26)
    em_3_3 := FL.ckExm_ok (c.fact 27)
    xf_1 := L2.xfB_ok (c.fact 28)
    xf_2 := L2.xfB_ok (c.fact 29)
    xf_3 := L2.xfB_ok (c.fact 30)
    no_1_place := FL.ckNoat_ok (c.fact 15)
    no_2_index := FL.ckNoat_ok (c.fact 19)
    no_2_what := FL.ckNoat_ok (c.fact 20)
    no_3_leg := FL.ckNoat_ok (c.fact 24)
    d__law_hand := FL.defH_at (d := dn_3) rfl (FL.ckGlo_ok X G (c.fact 31)) (c.def_ 3 (d := dn_3) rfl)
    d__law_mixed := FL.defH_at (d := dn_4) rfl (FL.ckGlo_ok X G (c.fact 32)) (c.def_ 4 (d := dn_4) rfl)
    d__law_take := FL.defH_at (d := dn_5) rfl (FL.ckGlo_ok X G (c.fact 33)) (c.def_ 5 (d := dn_5) rfl)
    d__law_unlike := FL.defH_at (d := dn_6) rfl (FL.ckGlo_ok X G (c.fact 34)) (c.def_ 6 (d := dn_6) rfl)
    d__law_gcd := FL.defH_at (d := dn_7) rfl (FL.ckGlo_ok X G (c.fact 35)) (c.def_ 7 (d := dn_7) rfl)
    d__law_ratio := FL.defH_at (d := dn_8) rfl (FL.ckGlo_ok X G (c.fact 36)) (c.def_ 8 (d := dn_8) rfl)
    d__law_bounded := FL.defH_at (d := dn_9) rfl (FL.ckGlo_ok X G (c.fact 37)) (c.def_ 9 (d := dn_9) rfl)
    d__law_coordinate := FL.defH_at (d := dn_10) rfl (FL.ckGlo_ok X G (c.fact 38)) (c.def_ 10 (d := dn_10) rfl)
    d__law_near := FL.defH_at (d := dn_11) rfl (FL.ckGlo_ok X G (c.fact 39)) (c.def_ 11 (d := dn_11) rfl)
    d__law_spots := FL.defH_at (d := dn_12) rfl (FL.ckGlo_ok X G (c.fact 40)) (c.def_ 12 (d := dn_12) rfl)
    d_is_whole := FL.defH_at (d := dn_13) rfl (FL.ckGlo_ok X G (c.fact 41)) (c.def_ 13 (d := dn_13) rfl)
    d_is_ratio := FL.defH_at (d := dn_14) rfl (FL.ckGlo_ok X G (c.fact 42)) (c.def_ 14 (d := dn_14) rfl)
    d_is_small := FL.defH_at (d := dn_15) rfl (FL.ckGlo_ok X G (c.fact 43)) (c.def_ 15 (d := dn_15) rfl)
    d_is_place := FL.defH_at (d := dn_16) rfl (FL.ckGlo_ok X G (c.fact 44)) (c.def_ 16 (d := dn_16) rfl)
    d_check_places := FL.defH_at (d := dn_17) rfl (FL.ckGlo_ok X G (c.fact 45)) (c.def_ 17 (d := dn_17) rfl)
    d__law_try := FL.defH_at (d := dn_18) rfl (FL.ckGlo_ok X G (c.fact 46)) (c.def_ 18 (d := dn_18) rfl)
    d__law_arm := FL.defH_at (d := dn_19) rfl (FL.ckGlo_ok X G (c.fact 47)) (c.def_ 19 (d := dn_19) rfl)
    d__law_odd := FL.defH_at (d := dn_20) rfl (FL.ckGlo_ok X G (c.fact 48)) (c.def_ 20 (d := dn_20) rfl)
    d__law_due := FL.defH_at (d := dn_21) rfl (FL.ckGlo_ok X G (c.fact 49)) (c.def_ 21 (d := dn_21) rfl)
    d__law_tuples := FL.defH_at (d := dn_22) rfl (FL.ckGlo_ok X G (c.fact 50)) (c.def_ 22 (d := dn_22) rfl)
    d__lowest := FL.defH_at (d := dn_23) rfl (FL.ckGlo_ok X G (c.fact 51)) (c.def_ 23 (d := dn_23) rfl)
    d_plus := FL.defH_at (d := dn_24) rfl (FL.ckGlo_ok X G (c.fact 52)) (c.def_ 24 (d := dn_24) rfl)
    d_shift_place := FL.defH_at (d := dn_25) rfl (FL.ckGlo_ok X G (c.fact 53)) (c.def_ 25 (d := dn_25) rfl)
    d_times := FL.defH_at (d := dn_26) rfl (FL.ckGlo_ok X G (c.fact 54)) (c.def_ 26 (d := dn_26) rfl)
    d_stretch_place := FL.defH_at (d := dn_27) rfl (FL.ckGlo_ok X G (c.fact 55)) (c.def_ 27 (d := dn_27) rfl)
    d__law_times := FL.defH_at (d := dn_28) rfl (FL.ckGlo_ok X G (c.fact 56)) (c.def_ 28 (d := dn_28) rfl)
    d__law_minus := FL.defH_at (d := dn_29) rfl (FL.ckGlo_ok X G (c.fact 57)) (c.def_ 29 (d := dn_29) rfl)
    d__law_cross := FL.defH_at (d := dn_30) rfl (FL.ckGlo_ok X G (c.fact 58)) (c.def_ 30 (d := dn_30) rfl)
    d_minus := FL.defH_at (d := dn_31) rfl (FL.ckGlo_ok X G (c.fact 59)) (c.def_ 31 (d := dn_31) rfl)
    d_cross_of := FL.defH_at (d := dn_32) rfl (FL.ckGlo_ok X G (c.fact 60)) (c.def_ 32 (d := dn_32) rfl)
    d_in_row := FL.defH_at (d := dn_33) rfl (FL.ckGlo_ok X G (c.fact 61)) (c.def_ 33 (d := dn_33) rfl)
    d_check_leg := FL.defH_at (d := dn_34) rfl (FL.ckGlo_ok X G (c.fact 62)) (c.def_ 34 (d := dn_34) rfl)
    d__law_leg := FL.defH_at (d := dn_35) rfl (FL.ckGlo_ok X G (c.fact 63)) (c.def_ 35 (d := dn_35) rfl)
    d_check_place := FL.defH_at (d := dn_36) rfl (FL.ckGlo_ok X G (c.fact 64)) (c.def_ 36 (d := dn_36) rfl)
    d__law_bare := FL.defH_at (d := dn_37) rfl (FL.ckGlo_ok X G (c.fact 65)) (c.def_ 37 (d := dn_37) rfl)
    d__law_one := FL.defH_at (d := dn_38) rfl (FL.ckGlo_ok X G (c.fact 66)) (c.def_ 38 (d := dn_38) rfl)
    d__law_plus := FL.defH_at (d := dn_39) rfl (FL.ckGlo_ok X G (c.fact 67)) (c.def_ 39 (d := dn_39) rfl)
    d_negative := FL.defH_at (d := dn_40) rfl (FL.ckGlo_ok X G (c.fact 68)) (c.def_ 40 (d := dn_40) rfl)
    d_turn_place := FL.defH_at (d := dn_41) rfl (FL.ckGlo_ok X G (c.fact 69)) (c.def_ 41 (d := dn_41) rfl)
    d_mirror_place := FL.defH_at (d := dn_42) rfl (FL.ckGlo_ok X G (c.fact 70)) (c.def_ 42 (d := dn_42) rfl)
    d_law := FL.defH_at (d := dn_43) rfl (FL.ckGlo_ok X G (c.fact 71)) (c.def_ 43 (d := dn_43) rfl)
  }⟩
def names_0 : List Str := ["ScaleError", "BadPlace", "BadPlaces", "NoLeg", "ZERO", "SMALL", "is_whole", "is_ratio", "is_small", "_lowest", "plus", "minus", "times", "negative", "is_place", "check_place", "check_places", "check_leg", "shift_place", "turn_place", "mirror_place", "stretch_place", "cross_of", "in_row", "_law_hand", "_law_mixed", "_law_take", "_law_gcd", "_law_ratio", "_law_plus"]
def names_1 : List Str := ["_law_minus", "_law_times", "_law_tuples", "_law_bounded", "_law_arm", "_law_coordinate", "_law_near", "_law_unlike", "_law_spots", "_law_cross", "_law_try", "_law_one", "_law_bare", "_law_odd", "_law_due", "_law_leg"]
def names : List Str := names_0 ++ names_1
abbrev RR : PySem.W.OpenRow := PySem.W.OpenLaw.row PySem.Challenge.rw_wherelaid_k02_whole_places_and_rows
def ob (s : PySem.W.SharedT) : FL.AlH := FL.obsHG 6 cks fns bls (HandSHeadRun.getT s)
theorem ob_eq (s : PySem.W.SharedT) : ob s = (FL.hookH 6 cks fns bls).obs s.abs := FL.obsHG_eq (HandSHeadRun.getT_eq s)
open PySem.W HandSHeadRun in
set_option maxHeartbeats 0 in
theorem run_l (w : World) : (HandSHeadRun.wholeF (fun p => HandSHeadRun.stepQ (HandSHeadRun.denQ HandSHeadRun.tabQ) p w) HandSHeadRun.fenceQ 40000 RR.prog).map (fun s => HandSHeadRun.looksF RR.prog s.1.heap s.2.abs) = some true := by
  kernel_rfl
open PySem.W HandSHeadRun in
set_option maxHeartbeats 0 in
theorem run_s (w : World) : (HandSHeadRun.wholeF (fun p => HandSHeadRun.stepQ (HandSHeadRun.denQ HandSHeadRun.tabQ) p w) HandSHeadRun.fenceQ 40000 RR.prog).map (fun s => HandSHeadRun.seenQ (PySem.W.view RR.prog [0, 51]) names (importedModules RR.prog.main.body) (fun s => xlAt (PySem.W.view RR.prog [0, 51]) [] s && recOk RR.toRowW.records s) s.2.abs) = some (openGood (PySem.W.view RR.prog [0, 51]) names) := by
  kernel_rfl
set_option maxHeartbeats 0 in
theorem run_0 (w : World) : (HandSHeadRun.wholeF (fun p => HandSHeadRun.stepQ (HandSHeadRun.denQ HandSHeadRun.tabQ) p w) HandSHeadRun.fenceQ 40000 RR.prog).map (fun s => FL.obP 6 cks_0 fns_0 bls_0 s.2) = some (FL.valH fns_0 bls_0) := by
  kernel_rfl
theorem run (w : World) : HandSHeadRun.RunEqI RR (PySem.W.view RR.prog [0, 51]) (FL.hookH 6 cks fns bls) ob 40000 names w :=
  FL.part_3 (run_l w) (run_s w) (run_0 w)
end K02

/-! P1: mirrors run, step by step, in plain Lean. -/
namespace FL
open PySem
section
variable {α β : Type}
def bindK (r : R α) (f : α → M β) : R β := match r with
  | .ok a w => f a w
  | .ex c ns xs w => .ex c ns xs w
  | .bad => .bad
theorem bind_w (m : M α) (f : α → M β) (w : Wd) : M.bind m f w = bindK (m w) f := rfl
theorem bindK_ok (a : α) (w : Wd) (f : α → M β) : bindK (.ok a w) f = f a w := rfl
theorem bindK_ex (c : Nat) (ns : List Str) (xs : List D) (w : Wd) (f : α → M β) : bindK (.ex c ns xs w) f = .ex c ns xs w := rfl
theorem ret_w (a : α) (w : Wd) : M.ret a w = .ok a w := rfl
theorem fail_w (w : Wd) : (M.fail : M α) w = .bad := rfl
theorem if_w (p : Prop) [Decidable p] (a b : M α) (w : Wd) : (if p then a else b) w = if p then a w else b w := by split <;> rfl
end
section
variable {ρ : Env} {w : Wd}
def varK (s : Option Slot) (w : Wd) : R D := match s with
  | some (.val d) => .ok d w
  | some (.nest ds) => .ok (.lst ds) w
  | _ => .bad
theorem eVar_w (i : Nat) : eVar i ρ w = varK ρ[i]? w := by
  unfold eVar varK
  cases ρ[i]? with
  | none => rfl
  | some s => cases s <;> rfl
theorem varK_v (d : D) : varK (some (.val d)) w = .ok d w := rfl
theorem eC_w (d : D) : eC d ρ w = .ok d w := rfl
theorem eUn_w (f : D → M D) (a : EF) : eUn f a ρ w = bindK (a ρ w) f := rfl
theorem eBin_w (f : D → D → M D) (a b : EF) : eBin f a b ρ w = bindK (a ρ w) fun x => M.bind (b ρ) fun y => f x y := rfl
theorem evs0_w : evs [] ρ w = .ok [] w := rfl
theorem evs1_w (e : EF) (es : List EF) : evs (e :: es) ρ w = bindK (e ρ w) fun x => M.bind (evs es ρ) fun xs => M.ret (x :: xs) := rfl
theorem eTup_w (es : List EF) : eTup es ρ w = bindK (evs es ρ w) fun xs => M.ret (.tup xs) := rfl
theorem eLst_w (es : List EF) : eLst es ρ w = bindK (evs es ρ w) fun xs => M.ret (.lst xs) := rfl
theorem eCall_w (F : List D → M D) (es : List EF) : eCall F es ρ w = bindK (evs es ρ w) F := rfl

def ifE (r : R Bool) (a b : EF) (ρ : Env) : R D := match r with
  | .ok true w => a ρ w
  | .ok false w => b ρ w
  | .ex c ns xs w => .ex c ns xs w
  | .bad => .bad
theorem eIf_w (t : TF) (a b : EF) : eIf t a b ρ w = ifE (t ρ w) a b ρ := by
  show M.bind (t ρ) _ w = _
  rw [bind_w]
  cases t ρ w with
  | ok c w' => cases c <;> rfl
  | ex => rfl
  | bad => rfl
theorem ifE_t (a b : EF) : ifE (.ok true w) a b ρ = a ρ w := rfl
theorem ifE_f (a b : EF) : ifE (.ok false w) a b ρ = b ρ w := rfl
def andE (r : R D) (b : EF) (ρ : Env) : R D := match r with
  | .ok (.bl true) w => b ρ w
  | .ok (.bl false) w => .ok (.bl false) w
  | .ex c ns xs w => .ex c ns xs w
  | _ => .bad
theorem eAnd_w (a b : EF) : eAnd a b ρ w = andE (a ρ w) b ρ := by
  show M.bind (a ρ) _ w = _
  rw [bind_w]
  cases a ρ w with
  | ok d w' => cases d with
    | bl c => cases c <;> rfl
    | _ => rfl
  | ex => rfl
  | bad => rfl
theorem andE_t (b : EF) : andE (.ok (.bl true) w) b ρ = b ρ w := rfl
theorem andE_f (b : EF) : andE (.ok (.bl false) w) b ρ = .ok (.bl false) w := rfl
def orE (r : R D) (b : EF) (ρ : Env) : R D := match r with
  | .ok (.bl true) w => .ok (.bl true) w
  | .ok (.bl false) w => b ρ w
  | .ex c ns xs w => .ex c ns xs w
  | _ => .bad
theorem eOr_w (a b : EF) : eOr a b ρ w = orE (a ρ w) b ρ := by
  show M.bind (a ρ) _ w = _
  rw [bind_w]
  cases a ρ w with
  | ok d w' => cases d with
    | bl c => cases c <;> rfl
    | _ => rfl
  | ex => rfl
  | bad => rfl
theorem orE_t (b : EF) : orE (.ok (.bl true) w) b ρ = .ok (.bl true) w := rfl
theorem orE_f (b : EF) : orE (.ok (.bl false) w) b ρ = b ρ w := rfl
theorem eNot_w (t : TF) : eNot t ρ w = bindK (t ρ w) fun c => M.ret (.bl (!c)) := rfl
def chainK (r : R D) (g : D → D → M D) (y : D) (c : EF) (ρ : Env) : R D := match r with
  | .ok (.bl true) w => bindK (c ρ w) fun z => g y z
  | .ok (.bl false) w => .ok (.bl false) w
  | .ex c ns xs w => .ex c ns xs w
  | _ => .bad
def chainM (f g : D → D → M D) (c : EF) (ρ : Env) (x y : D) : M D := fun w => chainK (f x y w) g y c ρ
theorem chainM_w (f g : D → D → M D) (c : EF) (x y : D) : chainM f g c ρ x y w = chainK (f x y w) g y c ρ := rfl
theorem eChain_w (f g : D → D → M D) (a b c : EF) : eChain f g a b c ρ w = bindK (a ρ w) fun x => M.bind (b ρ) fun y => chainM f g c ρ x y := by
  show M.bind (a ρ) _ w = _
  rw [bind_w]
  congr 1
  funext x
  congr 1
  funext y w'
  rw [bind_w, chainM_w]
  cases f x y w' with
  | ok d w2 => cases d with
    | bl k => cases k <;> rfl
    | _ => rfl
  | ex => rfl
  | bad => rfl
theorem chainK_t (g : D → D → M D) (y : D) (c : EF) : chainK (.ok (.bl true) w) g y c ρ = bindK (c ρ w) fun z => g y z := rfl
theorem chainK_f (g : D → D → M D) (y : D) (c : EF) : chainK (.ok (.bl false) w) g y c ρ = .ok (.bl false) w := rfl
theorem eNew_w (f : Env → M (List D)) : eNew f ρ w = bindK (f ρ w) fun ys => M.ret (.lst ys) := rfl
def handK (r : R (List D)) : R D := match r with
  | .ok xs none => .ok .hand (some xs)
  | .ok _ (some _) => .bad
  | .ex c ns xs w => .ex c ns xs w
  | .bad => .bad
theorem eHand_w (es : List EF) : eHand es ρ w = handK (evs es ρ w) := by
  unfold eHand M.bind handK
  cases evs es ρ w with
  | ok xs w' => cases w' <;> rfl
  | ex => rfl
  | bad => rfl
theorem handK_ok (xs : List D) : handK (.ok xs none) = .ok .hand (some xs) := rfl
def xfK (s : Option Slot) (f : Str) (w : Wd) : R D := match s with
  | some (.exc _ ns xs) => (match fldOf f ns xs with | some d => .ok d w | none => .bad)
  | _ => .bad
theorem eXf_w (i : Nat) (f : Str) : eXf i f ρ w = xfK ρ[i]? f w := by
  unfold eXf xfK
  cases ρ[i]? with
  | none => rfl
  | some s => cases s with
    | exc c ns xs => simp only; cases fldOf f ns xs <;> rfl
    | _ => rfl
theorem xfK_v (c : Nat) (ns : List Str) (xs : List D) (f : Str) {d : D} (h : fldOf f ns xs = some d) : xfK (some (.exc c ns xs)) f w = .ok d w := by unfold xfK; simp only [h]
/-! tests -/
theorem tVal_w (e : EF) : tVal e ρ w = bindK (e ρ w) boolOf := rfl
theorem tTru_w (e : EF) : tTru e ρ w = bindK (e ρ w) truth := rfl
theorem tNot_w (t : TF) : tNot t ρ w = bindK (t ρ w) fun c => M.ret (!c) := rfl
theorem tYes_w : tYes ρ w = .ok true w := rfl
def andT (r : R Bool) (b : TF) (ρ : Env) : R Bool := match r with
  | .ok true w => b ρ w
  | .ok false w => .ok false w
  | .ex c ns xs w => .ex c ns xs w
  | .bad => .bad
def orT (r : R Bool) (b : TF) (ρ : Env) : R Bool := match r with
  | .ok true w => .ok true w
  | .ok false w => b ρ w
  | .ex c ns xs w => .ex c ns xs w
  | .bad => .bad
theorem tAnd_w (a b : TF) : tAnd a b ρ w = andT (a ρ w) b ρ := by
  show M.bind (a ρ) _ w = _
  rw [bind_w]
  cases a ρ w with
  | ok c w' => cases c <;> rfl
  | ex => rfl
  | bad => rfl
theorem tOr_w (a b : TF) : tOr a b ρ w = orT (a ρ w) b ρ := by
  show M.bind (a ρ) _ w = _
  rw [bind_w]
  cases a ρ w with
  | ok c w' => cases c <;> rfl
  | ex => rfl
  | bad => rfl
theorem andT_t (b : TF) : andT (.ok true w) b ρ = b ρ w := rfl
theorem andT_f (b : TF) : andT (.ok false w) b ρ = .ok false w := rfl
theorem orT_t (b : TF) : orT (.ok true w) b ρ = .ok true w := rfl
theorem orT_f (b : TF) : orT (.ok false w) b ρ = b ρ w := rfl
theorem boolOf_w (b : Bool) : boolOf (.bl b) w = .ok b w := rfl
theorem truth_bl (b : Bool) : truth (.bl b) w = .ok b w := rfl
theorem truth_int (i : Int) : truth (.int i) w = .ok (i != 0) w := rfl
theorem truth_non : truth .non w = .ok false w := rfl
theorem truth_lst (xs : List D) : truth (.lst xs) w = .ok (!xs.isEmpty) w := rfl
theorem truth_tup (xs : List D) : truth (.tup xs) w = .ok (!xs.isEmpty) w := rfl
theorem truth_frz (xs : List D) : truth (.frz xs) w = .ok (!xs.isEmpty) w := rfl
/-! data -/
theorem add_int (i j : Int) : addD (.int i) (.int j) w = .ok (.int (i + j)) w := rfl
theorem sub_int (i j : Int) : subD (.int i) (.int j) w = .ok (.int (i - j)) w := rfl
theorem neg_int (i : Int) : negD (.int i) w = .ok (.int (-i)) w := rfl
theorem lt_int (i j : Int) : ltD (.int i) (.int j) w = .ok (.bl (decide (i < j))) w := rfl
theorem le_int (i j : Int) : leD (.int i) (.int j) w = .ok (.bl (decide (i ≤ j))) w := rfl
theorem gt_int (i j : Int) : gtD (.int i) (.int j) w = .ok (.bl (decide (j < i))) w := rfl
theorem ge_int (i j : Int) : geD (.int i) (.int j) w = .ok (.bl (decide (j ≤ i))) w := rfl
theorem isNon_w (a : D) : isNonD a .non w = .ok (.bl a.isNon) w := rfl
theorem notNon_w (a : D) : notNonD a .non w = .ok (.bl (!a.isNon)) w := rfl
theorem is_w (a b : Bool) : isD (.bl a) (.bl b) w = .ok (.bl (decide (a = b))) w := rfl
theorem isNot_w (a b : Bool) : isNotD (.bl a) (.bl b) w = .ok (.bl (!decide (a = b))) w := rfl
theorem int_w (i : Int) : intD (.int i) w = .ok (.int i) w := rfl
theorem abs_w (i : Int) : absD (.int i) w = .ok (.int (if i < 0 then -i else i)) w := rfl
theorem gcd_w (a b : Int) : gcdD (.int a) (.int b) w = .ok (.int ((Nat.gcd a.natAbs b.natAbs : Nat) : Int)) w := rfl
theorem tup_w (xs : List D) : tupD (.lst xs) w = .ok (.tup xs) w := rfl
theorem tupt_w (xs : List D) : tupD (.tup xs) w = .ok (.tup xs) w := rfl
theorem list_w (xs : List D) : listD (.tup xs) w = .ok (.lst xs) w := rfl
theorem listl_w (xs : List D) : listD (.lst xs) w = .ok (.lst xs) w := rfl
theorem len_lst (xs : List D) : lenD (.lst xs) w = .ok (.int xs.length) w := rfl
theorem len_tup (xs : List D) : lenD (.tup xs) w = .ok (.int xs.length) w := rfl
theorem len_frz (xs : List D) : lenD (.frz xs) w = .ok (.int xs.length) w := rfl
theorem un1_w (f : D → M D) (d : D) : un1 f [d] w = f d w := rfl
theorem bin2_w (f : D → D → M D) (d e : D) : bin2 f [d, e] w = f d e w := rfl
theorem mod_int {i j : Int} (h : j ≠ 0) : modD (.int i) (.int j) w = .ok (.int (i.fmod j)) w := by unfold modD; simp only [if_w, if_pos h]; rfl
/-- i is of less than k bits -/
def Sz (k : Nat) (i : Int) : Prop := i.natAbs < 2 ^ k
theorem Sz.log {k : Nat} {i : Int} (h : Sz k i) : i.natAbs.log2 ≤ k := by
  unfold Sz at h
  by_cases e : i.natAbs = 0
  · rw [e]; exact Nat.zero_le k
  · exact Nat.le_of_lt ((Nat.log2_lt e).mpr h)
theorem Sz.mono {k l : Nat} {i : Int} (h : Sz k i) (hl : k ≤ l) : Sz l i := Nat.lt_of_lt_of_le h (Nat.pow_le_pow_right (by decide) hl)
theorem Sz.mul {k l : Nat} {i j : Int} (h : Sz k i) (g : Sz l j) : Sz (k + l) (i * j) := by
  unfold Sz at *
  rw [Int.natAbs_mul, Nat.pow_add]
  exact Nat.mul_lt_mul'' h g
theorem Sz.add {k : Nat} {i j : Int} (h : Sz k i) (g : Sz k j) : Sz (k + 1) (i + j) := by
  unfold Sz at *
  have := Int.natAbs_add_le i j
  rw [Nat.pow_succ]; omega
theorem Sz.neg {k : Nat} {i : Int} (h : Sz k i) : Sz k (-i) := by unfold Sz at *; rwa [Int.natAbs_neg]
theorem Sz.sub {k : Nat} {i j : Int} (h : Sz k i) (g : Sz k j) : Sz (k + 1) (i - j) := by rw [Int.sub_eq_add_neg]; exact h.add g.neg
theorem mul_int {k l : Nat} {i j : Int} (h : Sz k i) (g : Sz l j) (hk : k + l < 1000000 := by decide) : mulD (.int i) (.int j) w = .ok (.int (i * j)) w := by
  have := h.log
  have := g.log
  unfold mulD; simp only [if_w]; rw [if_pos (by omega)]; rfl
theorem fdiv_int {k : Nat} {i j : Int} (h0 : j ≠ 0) (h : Sz k j) (hk : k < 9000 := by decide) : fdivD (.int i) (.int j) w = .ok (.int (i.fdiv j)) w := by
  have := h.log
  unfold fdivD; simp only [if_w]; rw [if_pos ⟨h0, by omega⟩]; rfl
theorem pow_int {i j : Int} (h0 : 0 ≤ j ∧ j ≤ 1000000 ∧ i.natAbs < 2 ^ 64) : powD (.int i) (.int j) w = .ok (.int (i ^ j.toNat)) w := by unfold powD; simp only [if_w, if_pos h0]; rfl
theorem eq_w {a b : D} (h : D.flat 60 a = true ∧ D.flat 60 b = true) : eqD a b w = .ok (.bl (D.eqv a b)) w := by unfold eqD; simp only [if_w, if_pos h]; rfl
theorem ne_w {a b : D} (h : D.flat 60 a = true ∧ D.flat 60 b = true) : neD a b w = .ok (.bl (!D.eqv a b)) w := by unfold neD; simp only [if_w, if_pos h]; rfl
theorem eq_int (i j : Int) : eqD (.int i) (.int j) w = .ok (.bl (i == j)) w := by rw [eq_w ⟨rfl, rfl⟩]; rfl
theorem ne_int (i j : Int) : neD (.int i) (.int j) w = .ok (.bl (!(i == j))) w := by rw [ne_w ⟨rfl, rfl⟩]; rfl
theorem eq_pair (a b c d : Int) : eqD (.tup [.int a, .int b]) (.tup [.int c, .int d]) w = .ok (.bl (a == c && b == d)) w := by rw [eq_w ⟨rfl, rfl⟩]; simp only [D.eqv, D.eqvL, Bool.and_true]
theorem ne_pair (a b c d : Int) : neD (.tup [.int a, .int b]) (.tup [.int c, .int d]) w = .ok (.bl (!(a == c && b == d))) w := by rw [ne_w ⟨rfl, rfl⟩]; simp only [D.eqv, D.eqvL, Bool.and_true]
def itK (o : Option D) (w : Wd) : R D := match o with
  | some d => .ok d w
  | none => .bad
theorem ix_lst (xs : List D) (i : Int) : ixD (.lst xs) (.int i) w = itK (itemAt xs i) w := by unfold ixD ixL itK; simp only; cases itemAt xs i <;> rfl
theorem ix_frz (xs : List D) (i : Int) : ixD (.frz xs) (.int i) w = itK (itemAt xs i) w := by unfold ixD ixL itK; simp only; cases itemAt xs i <;> rfl
theorem ix_tup (xs : List D) (i : Int) : ixD (.tup xs) (.int i) w = itK (itemAt xs i) w := by unfold ixD ixL itK; simp only; cases itemAt xs i <;> rfl
theorem ix_hand (xs : List D) (i : Int) : ixD .hand (.int i) (some xs) = itK (itemAt xs i) (some xs) := by unfold ixD ixL itK; simp only; cases itemAt xs i <;> rfl
theorem itK_v (d : D) : itK (some d) w = .ok d w := rfl
theorem item0 (x : D) (xs : List D) : itemAt (x :: xs) 0 = some x := by
  unfold itemAt ixP
  rw [if_pos ⟨by decide, by simp only [List.length_cons]; omega⟩]; rfl
theorem item1 (x y : D) (xs : List D) : itemAt (x :: y :: xs) 1 = some y := by
  unfold itemAt ixP
  rw [if_pos ⟨by decide, by simp only [List.length_cons]; omega⟩]; rfl
theorem item2 (x y z : D) (xs : List D) : itemAt (x :: y :: z :: xs) 2 = some z := by
  unfold itemAt ixP
  rw [if_pos ⟨by decide, by simp only [List.length_cons]; omega⟩]; rfl
theorem item3 (x y z u : D) (xs : List D) : itemAt (x :: y :: z :: u :: xs) 3 = some u := by
  unfold itemAt ixP
  rw [if_pos ⟨by decide, by simp only [List.length_cons]; omega⟩]; rfl
theorem item_nat {xs : List D} {i : Int} {d : D} (h0 : 0 ≤ i) (e : xs[i.toNat]? = some d) : itemAt xs i = some d := by
  have hl : i.toNat < xs.length := (List.getElem?_eq_some_iff.mp e).1
  unfold itemAt ixP
  rw [if_pos ⟨h0, by omega⟩]; exact e
theorem isi_w {ts : List Ty} {d : D} {n : String} (h : d.tyNm = some n) (ht : ts.all Ty.ok = true) : isiB ts d w = .ok (.bl (ts.any fun t => isT t d)) w := by
  unfold isiB
  rw [h]
  simp only [if_pos ht]
  rfl
theorem isi_int_i (i : Int) : isiB [.int] (.int i) w = .ok (.bl true) w := by rw [isi_w (n := "int") rfl rfl]; rfl
theorem isi_int_b (i : Bool) : isiB [.int] (.bl i) w = .ok (.bl true) w := by rw [isi_w (n := "bool") rfl rfl]; rfl
theorem isi_int_n  : isiB [.int] .non w = .ok (.bl false) w := by rw [isi_w (n := "NoneType") rfl rfl]; rfl
theorem isi_int_s (i : Str) : isiB [.int] (.str i) w = .ok (.bl false) w := by rw [isi_w (n := "str") rfl rfl]; rfl
theorem isi_int_t (i : List D) : isiB [.int] (.tup i) w = .ok (.bl false) w := by rw [isi_w (n := "tuple") rfl rfl]; rfl
theorem isi_int_l (i : List D) : isiB [.int] (.lst i) w = .ok (.bl false) w := by rw [isi_w (n := "list") rfl rfl]; rfl
theorem isi_int_f (i : List D) : isiB [.int] (.frz i) w = .ok (.bl false) w := by rw [isi_w (n := "list") rfl rfl]; rfl
theorem isi_int_h  : isiB [.int] .hand w = .ok (.bl false) w := by rw [isi_w (n := "list") rfl rfl]; rfl
theorem isi_bool_i (i : Int) : isiB [.bool] (.int i) w = .ok (.bl false) w := by rw [isi_w (n := "int") rfl rfl]; rfl
theorem isi_bool_b (i : Bool) : isiB [.bool] (.bl i) w = .ok (.bl true) w := by rw [isi_w (n := "bool") rfl rfl]; rfl
theorem isi_bool_n  : isiB [.bool] .non w = .ok (.bl false) w := by rw [isi_w (n := "NoneType") rfl rfl]; rfl
theorem isi_bool_s (i : Str) : isiB [.bool] (.str i) w = .ok (.bl false) w := by rw [isi_w (n := "str") rfl rfl]; rfl
theorem isi_bool_t (i : List D) : isiB [.bool] (.tup i) w = .ok (.bl false) w := by rw [isi_w (n := "tuple") rfl rfl]; rfl
theorem isi_bool_l (i : List D) : isiB [.bool] (.lst i) w = .ok (.bl false) w := by rw [isi_w (n := "list") rfl rfl]; rfl
theorem isi_bool_f (i : List D) : isiB [.bool] (.frz i) w = .ok (.bl false) w := by rw [isi_w (n := "list") rfl rfl]; rfl
theorem isi_bool_h  : isiB [.bool] .hand w = .ok (.bl false) w := by rw [isi_w (n := "list") rfl rfl]; rfl
theorem isi_str_i (i : Int) : isiB [.str] (.int i) w = .ok (.bl false) w := by rw [isi_w (n := "int") rfl rfl]; rfl
theorem isi_str_b (i : Bool) : isiB [.str] (.bl i) w = .ok (.bl false) w := by rw [isi_w (n := "bool") rfl rfl]; rfl
theorem isi_str_n  : isiB [.str] .non w = .ok (.bl false) w := by rw [isi_w (n := "NoneType") rfl rfl]; rfl
theorem isi_str_s (i : Str) : isiB [.str] (.str i) w = .ok (.bl true) w := by rw [isi_w (n := "str") rfl rfl]; rfl
theorem isi_str_t (i : List D) : isiB [.str] (.tup i) w = .ok (.bl false) w := by rw [isi_w (n := "tuple") rfl rfl]; rfl
theorem isi_str_l (i : List D) : isiB [.str] (.lst i) w = .ok (.bl false) w := by rw [isi_w (n := "list") rfl rfl]; rfl
theorem isi_str_f (i : List D) : isiB [.str] (.frz i) w = .ok (.bl false) w := by rw [isi_w (n := "list") rfl rfl]; rfl
theorem isi_str_h  : isiB [.str] .hand w = .ok (.bl false) w := by rw [isi_w (n := "list") rfl rfl]; rfl
theorem isi_tuple_i (i : Int) : isiB [.tuple] (.int i) w = .ok (.bl false) w := by rw [isi_w (n := "int") rfl rfl]; rfl
theorem isi_tuple_b (i : Bool) : isiB [.tuple] (.bl i) w = .ok (.bl false) w := by rw [isi_w (n := "bool") rfl rfl]; rfl
theorem isi_tuple_n  : isiB [.tuple] .non w = .ok (.bl false) w := by rw [isi_w (n := "NoneType") rfl rfl]; rfl
theorem isi_tuple_s (i : Str) : isiB [.tuple] (.str i) w = .ok (.bl false) w := by rw [isi_w (n := "str") rfl rfl]; rfl
theorem isi_tuple_t (i : List D) : isiB [.tuple] (.tup i) w = .ok (.bl true) w := by rw [isi_w (n := "tuple") rfl rfl]; rfl
theorem isi_tuple_l (i : List D) : isiB [.tuple] (.lst i) w = .ok (.bl false) w := by rw [isi_w (n := "list") rfl rfl]; rfl
theorem isi_tuple_f (i : List D) : isiB [.tuple] (.frz i) w = .ok (.bl false) w := by rw [isi_w (n := "list") rfl rfl]; rfl
theorem isi_tuple_h  : isiB [.tuple] .hand w = .ok (.bl false) w := by rw [isi_w (n := "list") rfl rfl]; rfl
theorem isi_list_i (i : Int) : isiB [.list] (.int i) w = .ok (.bl false) w := by rw [isi_w (n := "int") rfl rfl]; rfl
theorem isi_list_b (i : Bool) : isiB [.list] (.bl i) w = .ok (.bl false) w := by rw [isi_w (n := "bool") rfl rfl]; rfl
theorem isi_list_n  : isiB [.list] .non w = .ok (.bl false) w := by rw [isi_w (n := "NoneType") rfl rfl]; rfl
theorem isi_list_s (i : Str) : isiB [.list] (.str i) w = .ok (.bl false) w := by rw [isi_w (n := "str") rfl rfl]; rfl
theorem isi_list_t (i : List D) : isiB [.list] (.tup i) w = .ok (.bl false) w := by rw [isi_w (n := "tuple") rfl rfl]; rfl
theorem isi_list_l (i : List D) : isiB [.list] (.lst i) w = .ok (.bl true) w := by rw [isi_w (n := "list") rfl rfl]; rfl
theorem isi_list_f (i : List D) : isiB [.list] (.frz i) w = .ok (.bl true) w := by rw [isi_w (n := "list") rfl rfl]; rfl
theorem isi_list_h  : isiB [.list] .hand w = .ok (.bl true) w := by rw [isi_w (n := "list") rfl rfl]; rfl
theorem isi_dict_i (i : Int) : isiB [.dict] (.int i) w = .ok (.bl false) w := by rw [isi_w (n := "int") rfl rfl]; rfl
theorem isi_dict_b (i : Bool) : isiB [.dict] (.bl i) w = .ok (.bl false) w := by rw [isi_w (n := "bool") rfl rfl]; rfl
theorem isi_dict_n  : isiB [.dict] .non w = .ok (.bl false) w := by rw [isi_w (n := "NoneType") rfl rfl]; rfl
theorem isi_dict_s (i : Str) : isiB [.dict] (.str i) w = .ok (.bl false) w := by rw [isi_w (n := "str") rfl rfl]; rfl
theorem isi_dict_t (i : List D) : isiB [.dict] (.tup i) w = .ok (.bl false) w := by rw [isi_w (n := "tuple") rfl rfl]; rfl
theorem isi_dict_l (i : List D) : isiB [.dict] (.lst i) w = .ok (.bl false) w := by rw [isi_w (n := "list") rfl rfl]; rfl
theorem isi_dict_f (i : List D) : isiB [.dict] (.frz i) w = .ok (.bl false) w := by rw [isi_w (n := "list") rfl rfl]; rfl
theorem isi_dict_h  : isiB [.dict] .hand w = .ok (.bl false) w := by rw [isi_w (n := "list") rfl rfl]; rfl
/-! comprehensions -/
def lcM (xs : List D) (g : GF) (t : TF) (e : EF) (ρ : Env) (is : List Nat) (w : Wd) : R (List D) := if xs.length ≤ line then lcL g t e (wipeE ρ is) xs w else .bad
def lcB (r : R (List D)) (g : GF) (t : TF) (e : EF) (ρ : Env) (is : List Nat) : R (List D) := match r with
  | .ok xs w => lcM xs g t e ρ is w
  | .ex c ns xs w => .ex c ns xs w
  | .bad => .bad
theorem nLc_w (src : IF) (is : List Nat) (g : GF) (t : TF) (e : EF) : nLc src is g t e ρ w = lcB (src ρ w) g t e ρ is := by
  show M.bind (src ρ) _ w = _
  rw [bind_w]
  unfold lcB
  cases src ρ w with
  | ok xs w' => simp only [bindK_ok, lcM, if_w, fail_w]
  | ex => rfl
  | bad => rfl
theorem lcB_ok (xs : List D) (g : GF) (t : TF) (e : EF) (is : List Nat) : lcB (.ok xs w) g t e ρ is = lcM xs g t e ρ is w := rfl
theorem lcM_v {xs : List D} (g : GF) (t : TF) (e : EF) (is : List Nat) (h : xs.length ≤ line) : lcM xs g t e ρ is w = lcL g t e (wipeE ρ is) xs w := if_pos h
def lcE (r : R D) (g : GF) (t : TF) (e : EF) (ρ : Env) (xs : List D) : R (List D) := match r with
  | .ok y w => bindK (lcL g t e ρ xs w) fun ys => M.ret (y :: ys)
  | _ => .bad
def lcT (r : R Bool) (ρ1 : Env) (g : GF) (t : TF) (e : EF) (ρ : Env) (xs : List D) : R (List D) := match r with
  | .ok true w => lcE (e ρ1 w) g t e ρ xs
  | .ok false w => lcL g t e ρ xs w
  | _ => .bad
theorem lc0 (g : GF) (t : TF) (e : EF) : lcL g t e ρ [] w = .ok [] w := rfl
theorem lcG {g : GF} (t : TF) (e : EF) {x : D} (xs : List D) {ρ1 : Env} (h : g x ρ = some ρ1) : lcL g t e ρ (x :: xs) w = lcT (t ρ1 w) ρ1 g t e ρ xs := by
  rw [lcL_cons h, bind_w]
  unfold lcT
  cases et : t ρ1 w with
  | ok c w' =>
    rw [noEx_ap et, bindK_ok]
    cases c with
    | true =>
      simp only [if_true]
      rw [bind_w]
      unfold lcE
      cases ee : e ρ1 w' with
      | ok y w2 => rw [noEx_ap ee, bindK_ok, bind_w]
      | ex => rw [noEx_bad (by rw [ee]; intro _ _ z; cases z)]; rfl
      | bad => rw [noEx_bad (by rw [ee]; intro _ _ z; cases z)]; rfl
    | false => simp only [Bool.false_eq_true, if_false]
  | ex => rw [noEx_bad (by rw [et]; intro _ _ z; cases z)]; rfl
  | bad => rw [noEx_bad (by rw [et]; intro _ _ z; cases z)]; rfl
theorem lcN (i : Nat) (t : TF) (e : EF) (x : D) (xs : List D) : lcL (gN i) t e ρ (x :: xs) w = lcT (t (ρ.set i (.val x)) w) (ρ.set i (.val x)) (gN i) t e ρ xs := lcG t e xs rfl
theorem lcT_t (ρ1 : Env) (g : GF) (t : TF) (e : EF) (xs : List D) : lcT (.ok true w) ρ1 g t e ρ xs = lcE (e ρ1 w) g t e ρ xs := rfl
theorem lcT_f (ρ1 : Env) (g : GF) (t : TF) (e : EF) (xs : List D) : lcT (.ok false w) ρ1 g t e ρ xs = lcL g t e ρ xs w := rfl
theorem lcE_v (y : D) (g : GF) (t : TF) (e : EF) (xs : List D) : lcE (.ok y w) g t e ρ xs = bindK (lcL g t e ρ xs w) fun ys => M.ret (y :: ys) := rfl
theorem wipeE0 : wipeE ρ [] = ρ := rfl
theorem wipeE1 (i : Nat) (is : List Nat) : wipeE ρ (i :: is) = (wipeE ρ is).set i .none := rfl
theorem add_lst {a b : List D} (h : a.length + b.length ≤ line) : addD (.lst a) (.lst b) w = .ok (.lst (a ++ b)) w := by unfold addD; simp only [if_w, if_pos h]; rfl
theorem in_lst {x : D} {xs : List D} (h : D.flat 60 x = true) (g : D.flatL 60 xs = true) : inD x (.lst xs) w = .ok (.bl (xs.any fun y => D.eqv y x)) w := by unfold inD; simp only [if_w, if_pos (And.intro h g)]; rfl
theorem notIn_lst {x : D} {xs : List D} (h : D.flat 60 x = true) (g : D.flatL 60 xs = true) : notInD x (.lst xs) w = .ok (.bl (!xs.any fun y => D.eqv y x)) w := by
  show M.bind (inD x (.lst xs)) _ w = _
  rw [bind_w, in_lst h g, bindK_ok]; rfl
/-! texts -/
def okS (x : Str) : Prop := x.cps.all (· < 0x110000) = true
theorem add_str {a b : Str} (h : a.length + b.length ≤ line) : addD (.str a) (.str b) w = .ok (.str (a ++ b)) w := by unfold addD; simp only [if_w, if_pos h]; rfl
theorem eq_str {a b : Str} (h : okS a) (g : okS b) : eqD (.str a) (.str b) w = .ok (.bl (a == b)) w := by rw [eq_w ⟨by unfold D.flat; exact h, by unfold D.flat; exact g⟩]; simp only [D.eqv]
theorem ne_str {a b : Str} (h : okS a) (g : okS b) : neD (.str a) (.str b) w = .ok (.bl (!(a == b))) w := by rw [ne_w ⟨by unfold D.flat; exact h, by unfold D.flat; exact g⟩]; simp only [D.eqv]
theorem okS_app {a b : Str} (h : okS a) (g : okS b) : okS (a ++ b) := by
  unfold okS at *
  show (a.cps ++ b.cps).all _ = true
  rw [Array.all_append, h, g]; rfl
theorem okS_of (s : String) : okS (Str.ofString s) := by
  unfold okS
  rw [Str.ofString_eq_toList]
  simp only [List.all_toArray, List.all_map, List.all_eq_true, Function.comp, decide_eq_true_eq]
  intro c _
  have := c.valid
  unfold UInt32.isValidChar Nat.isValidChar at this
  show c.val.toNat < 0x110000
  omega
theorem len_app (a b : Str) : (a ++ b).length = a.length + b.length := by
  show (a.cps ++ b.cps).size = _
  rw [Array.size_append]; rfl
theorem empty_app (a : Str) : Str.empty ++ a = a := by
  show Str.append Str.empty a = a
  unfold Str.append Str.empty
  simp
theorem len_of (s : String) : (Str.ofString s).length = s.toList.length := by
  rw [Str.ofString_eq_toList]
  simp [Str.length]
theorem toStr_len {k n : Nat} {i : Int} (h : Sz k i) (hk : 2 ^ k ≤ 10 ^ n) (hn : 0 < n) : (Str.ofString (toString i)).length ≤ n + 1 := by
  unfold Sz at h
  have nat : ∀ m : Nat, m < 10 ^ n → (Str.ofString (toString (m : Int))).length ≤ n := fun m hm => PyProof.Rows.toString_length_le (by omega) hn (by exact_mod_cast hm)
  match i, h with
  | .ofNat m, h => exact Nat.le_succ_of_le (nat m (Nat.lt_of_lt_of_le h hk))
  | .negSucc m, h =>
    have e : toString (Int.negSucc m) = "-" ++ toString (m + 1 : Nat) := rfl
    have e2 : toString ((m + 1 : Nat) : Int) = toString (m + 1 : Nat) := rfl
    have := nat (m + 1) (Nat.lt_of_lt_of_le h hk)
    rw [e2] at this
    rw [e, len_of, String.toList_append, List.length_append]
    rw [len_of] at this
    have : ("-" : String).toList.length = 1 := rfl
    omega
theorem str_int {k : Nat} {i : Int} (h : Sz k i) (hk : k < 1920) : strD (.int i) w = .ok (.str (Str.ofString (toString i))) w := by
  have := h.log
  unfold strD; simp only [if_w]; rw [if_pos (by omega)]; rfl
theorem fmt_int {k : Nat} {i : Int} (h : Sz k i) (hk : k < 1920) : fmtD (.int i) w = .ok (.str (Str.ofString (toString i))) w := by
  have := h.log
  unfold fmtD; simp only [if_w]; rw [if_pos (by omega)]; rfl
theorem fmt_str {x : Str} (h : x.length ≤ line) : fmtD (.str x) w = .ok (.str x) w := by unfold fmtD; simp only [if_w, if_pos h]; rfl
def jsK (es : List EF) (acc : Str) (ρ : Env) : D → M Str := fun x => match x with
  | .str y => if (acc ++ y).length ≤ line then jsM es (acc ++ y) ρ else M.fail
  | _ => M.fail
theorem eJs_w (es : List EF) : eJs es ρ w = bindK (jsM es Str.empty ρ w) fun s => M.ret (.str s) := rfl
theorem js0 (acc : Str) : jsM [] acc ρ w = .ok acc w := rfl
theorem js1 (e : EF) (es : List EF) (acc : Str) : jsM (e :: es) acc ρ w = bindK (e ρ w) (jsK es acc ρ) := rfl
theorem jsK_v (es : List EF) {acc y : Str} (h : (acc ++ y).length ≤ line) : jsK es acc ρ (.str y) w = jsM es (acc ++ y) ρ w := by unfold jsK; simp only [if_w, if_pos h]
/-! statements -/
def seqK (r : SR) (t : SF) : SR := match r with
  | .nx ρ w => t ρ w
  | r => r
theorem sSeq_w (s t : SF) : sSeq s t ρ w = seqK (s ρ w) t := by unfold sSeq seqK; cases s ρ w <;> rfl
theorem seqK_nx (t : SF) : seqK (.nx ρ w) t = t ρ w := rfl
theorem seqK_rt (d : D) (t : SF) : seqK (.rt d w) t = .rt d w := rfl
theorem seqK_bk (t : SF) : seqK (.bk ρ w) t = .bk ρ w := rfl
theorem seqK_ct (t : SF) : seqK (.ct ρ w) t = .ct ρ w := rfl
theorem seqK_ex (c : Nat) (ns : List Str) (xs : List D) (t : SF) : seqK (.ex c ns xs ρ w) t = .ex c ns xs ρ w := rfl
def onK {α : Type} (r : R α) (ρ : Env) (k : α → Wd → SR) : SR := match r with
  | .ok a w' => k a w'
  | .ex c ns xs w' => .ex c ns xs ρ w'
  | .bad => .bad
theorem onK_ok {α : Type} (a : α) (k : α → Wd → SR) : onK (.ok a w) ρ k = k a w := rfl
theorem onK_ex {α : Type} (c : Nat) (ns : List Str) (xs : List D) (k : α → Wd → SR) : onK (.ex c ns xs w) ρ k = .ex c ns xs ρ w := rfl
theorem sNext_w : sNext ρ w = .nx ρ w := rfl
theorem sSet_w (i : Nat) (e : EF) : sSet i e ρ w = onK (e ρ w) ρ fun d w' => .nx (ρ.set i (.val d)) w' := rfl
theorem sOwn_w (i : Nat) (f : Env → M (List D)) : sOwn i f ρ w = onK (f ρ w) ρ fun d w' => .nx (ρ.set i (.own d)) w' := rfl
def frzK (i : Nat) (s : Option Slot) (ρ : Env) (w : Wd) : SR := match s with
  | some (.own xs) => .nx (ρ.set i (.val (.lst xs))) w
  | _ => .bad
theorem sFrz_w (i : Nat) : sFrz i ρ w = frzK i ρ[i]? ρ w := by unfold sFrz frzK; cases ρ[i]? with
  | none => rfl
  | some s => cases s <;> rfl
theorem frzK_v (i : Nat) (xs : List D) : frzK i (some (.own xs)) ρ w = .nx (ρ.set i (.val (.lst xs))) w := rfl
def appK (i : Nat) (s : Option Slot) (r : R D) (ρ : Env) : SR := match s with
  | some (.own xs) => onK r ρ fun d w' => if xs.length < line then .nx (ρ.set i (.own (xs ++ [d]))) w' else .bad
  | _ => .bad
theorem sApp_w (i : Nat) (e : EF) : sApp i e ρ w = appK i ρ[i]? (e ρ w) ρ := by unfold sApp appK; cases ρ[i]? with
  | none => rfl
  | some s => cases s <;> rfl
theorem appK_v (i : Nat) {xs : List D} (d : D) (h : xs.length < line) : appK i (some (.own xs)) (.ok d w) ρ = .nx (ρ.set i (.own (xs ++ [d]))) w := by unfold appK; simp only [onK_ok, if_pos h]
theorem sExpr_w (e : EF) : sExpr e ρ w = onK (e ρ w) ρ fun _ w' => .nx ρ w' := rfl
theorem sRet_w (e : EF) : sRet e ρ w = onK (e ρ w) ρ fun d w' => .rt d w' := rfl
theorem sRetN_w : sRetN ρ w = .rt .non w := rfl
def ifK (r : R Bool) (a b : SF) (ρ : Env) : SR := match r with
  | .ok true w => a ρ w
  | .ok false w => b ρ w
  | .ex c ns xs w => .ex c ns xs ρ w
  | .bad => .bad
theorem sIf_w (t : TF) (a b : SF) : sIf t a b ρ w = ifK (t ρ w) a b ρ := by
  unfold sIf onE ifK
  cases t ρ w with
  | ok c w' => cases c <;> rfl
  | ex => rfl
  | bad => rfl
theorem ifK_t (a b : SF) : ifK (.ok true w) a b ρ = a ρ w := rfl
theorem ifK_f (a b : SF) : ifK (.ok false w) a b ρ = b ρ w := rfl
theorem sBrk_w : sBrk ρ w = .bk ρ w := rfl
theorem sCnt_w : sCnt ρ w = .ct ρ w := rfl
def parK (i j : Nat) (ρ : Env) (xs : List D) (w : Wd) : SR := match xs with
  | [x, y] => .nx ((ρ.set i (.val x)).set j (.val y)) w
  | _ => .bad
theorem sPar_w (i j : Nat) (a b : EF) : sPar i j a b ρ w = onK (evs [a, b] ρ w) ρ (parK i j ρ) := rfl
theorem parK_v (i j : Nat) (x y : D) : parK i j ρ [x, y] w = .nx ((ρ.set i (.val x)).set j (.val y)) w := rfl
def unpK (is : List Nat) (ρ : Env) (d : D) (w : Wd) : SR := match gT is d ρ with
  | some ρ' => .nx ρ' w
  | none => .bad
theorem sUnp_w (is : List Nat) (e : EF) : sUnp is e ρ w = onK (e ρ w) ρ (unpK is ρ) := rfl
theorem unpK_2 (i j : Nat) (x y : D) : unpK [i, j] ρ (.tup [x, y]) w = .nx ((ρ.set i (.val x)).set j (.val y)) w := rfl
theorem unpK_3 (i j k : Nat) (x y z : D) : unpK [i, j, k] ρ (.tup [x, y, z]) w = .nx (((ρ.set i (.val x)).set j (.val y)).set k (.val z)) w := rfl
theorem unpK_4 (i j k l : Nat) (x y z u : D) : unpK [i, j, k, l] ρ (.tup [x, y, z, u]) w = .nx ((((ρ.set i (.val x)).set j (.val y)).set k (.val z)).set l (.val u)) w := rfl
theorem sHSet_w (h k e : EF) : sHSet h k e ρ w = onK (bindK (e ρ w) fun d => M.bind (h ρ) fun o => M.bind (k ρ) fun j => M.ret [d, o, j]) ρ (hsK ρ) := rfl
theorem hsK_v (d : D) {i : Int} {hs : List D} {j : Nat} (e : ixP hs.length i = some j) : hsK ρ [d, .hand, .int i] (some hs) = .nx ρ (some (hs.set j d)) := by unfold hsK; simp only [e]
theorem hsK_0 (d x : D) (hs : List D) : hsK ρ [d, .hand, .int 0] (some (x :: hs)) = .nx ρ (some (d :: hs)) := by
  rw [hsK_v (j := 0)]; rfl
  unfold ixP; rw [if_pos ⟨by decide, by simp only [List.length_cons]; omega⟩]; rfl
theorem hsK_1 (d x y : D) (hs : List D) : hsK ρ [d, .hand, .int 1] (some (x :: y :: hs)) = .nx ρ (some (x :: d :: hs)) := by
  rw [hsK_v (j := 1)]; rfl
  unfold ixP; rw [if_pos ⟨by decide, by simp only [List.length_cons]; omega⟩]; rfl
theorem hsK_2 (d x y z : D) (hs : List D) : hsK ρ [d, .hand, .int 2] (some (x :: y :: z :: hs)) = .nx ρ (some (x :: y :: d :: hs)) := by
  rw [hsK_v (j := 2)]; rfl
  unfold ixP; rw [if_pos ⟨by decide, by simp only [List.length_cons]; omega⟩]; rfl
theorem hsK_3 (d x y z u : D) (hs : List D) : hsK ρ [d, .hand, .int 3] (some (x :: y :: z :: u :: hs)) = .nx ρ (some (x :: y :: z :: d :: hs)) := by
  rw [hsK_v (j := 3)]; rfl
  unfold ixP; rw [if_pos ⟨by decide, by simp only [List.length_cons]; omega⟩]; rfl
theorem sRaise_w (c : Nat) (ns : List Str) (es : List EF) : sRaise c ns es ρ w = onK (evs es ρ w) ρ fun xs w' => .ex c ns xs ρ w' := rfl
theorem sFor_w (src : IF) (g : GF) (b : SF) : sFor src g b ρ w = onK (src ρ w) ρ fun xs w' => forL g b xs ρ w' := rfl
theorem iSeq_w (e : EF) : iSeq e ρ w = bindK (e ρ w) seqOf := rfl
theorem seqOf_lst (xs : List D) : seqOf (.lst xs) w = .ok xs w := rfl
theorem seqOf_tup (xs : List D) : seqOf (.tup xs) w = .ok xs w := rfl
theorem seqOf_frz (xs : List D) : seqOf (.frz xs) w = .ok xs w := rfl
theorem iRng_w (lo hi : EF) : iRng lo hi ρ w = bindK (lo ρ w) fun x => M.bind (hi ρ) fun y => rangeM x y := rfl
theorem range_w {i j : Int} (h : -(2 ^ 61) ≤ i ∧ i < 2 ^ 61 ∧ -(2 ^ 61) ≤ j ∧ j < 2 ^ 61) : rangeM (.int i) (.int j) w = .ok (rangeL i j) w := by
  have hb : (near i && near j) = true := by rw [of_near ⟨h.1, h.2.1⟩, of_near ⟨h.2.2.1, h.2.2.2⟩]; rfl
  unfold rangeM
  simp only [if_pos hb]
  rfl
theorem loopK_nx (k : Env → Wd → SR) : loopK (.nx ρ w) k = k ρ w := rfl
theorem loopK_ct (k : Env → Wd → SR) : loopK (.ct ρ w) k = k ρ w := rfl
theorem loopK_bk (k : Env → Wd → SR) : loopK (.bk ρ w) k = .nx ρ w := rfl
theorem loopK_rt (d : D) (k : Env → Wd → SR) : loopK (.rt d w) k = .rt d w := rfl
theorem for0 (g : GF) (b : SF) : forL g b [] ρ w = .nx ρ w := rfl
def loopF (r : SR) (g : GF) (b : SF) (xs : List D) : SR := loopK r fun ρ' w' => forL g b xs ρ' w'
theorem forN (i : Nat) (b : SF) (x : D) (xs : List D) : forL (gN i) b (x :: xs) ρ w = loopF (b (ρ.set i (.val x)) w) (gN i) b xs := rfl
theorem forT (is : List Nat) (b : SF) {x : D} (xs : List D) {ρ1 : Env} (h : gT is x ρ = some ρ1) : forL (gT is) b (x :: xs) ρ w = loopF (b ρ1 w) (gT is) b xs := forL_cons h
theorem loopF_nx (g : GF) (b : SF) (xs : List D) : loopF (.nx ρ w) g b xs = forL g b xs ρ w := rfl
theorem loopF_ct (g : GF) (b : SF) (xs : List D) : loopF (.ct ρ w) g b xs = forL g b xs ρ w := rfl
theorem loopF_bk (g : GF) (b : SF) (xs : List D) : loopF (.bk ρ w) g b xs = .nx ρ w := rfl
theorem loopF_rt (d : D) (g : GF) (b : SF) (xs : List D) : loopF (.rt d w) g b xs = .rt d w := rfl
theorem loopF_ex (c : Nat) (ns : List Str) (ds : List D) (g : GF) (b : SF) (xs : List D) : loopF (.ex c ns ds ρ w) g b xs = .ex c ns ds ρ w := rfl
theorem sWhile_w (fuel : Env → Wd → Nat) (t : TF) (b : SF) : sWhile fuel t b ρ w = whileL t b (fuel ρ w) ρ w := rfl
def whK (r : R Bool) (ρ : Env) (t : TF) (b : SF) (n : Nat) : SR := match r with
  | .ok true w => loopK (b ρ w) fun ρ' w' => whileL t b n ρ' w'
  | .ok false w => .nx ρ w
  | .ex c ns xs w => .ex c ns xs ρ w
  | .bad => .bad
theorem while_w (t : TF) (b : SF) (n : Nat) : whileL t b (n + 1) ρ w = whK (t ρ w) ρ t b n := by
  show onE (t ρ) ρ w _ = _
  unfold onE whK
  cases t ρ w with
  | ok c w' => cases c <;> rfl
  | ex => rfl
  | bad => rfl
theorem whK_t (t : TF) (b : SF) (n : Nat) : whK (.ok true w) ρ t b n = loopK (b ρ w) fun ρ' w' => whileL t b n ρ' w' := rfl
theorem whK_f (t : TF) (b : SF) (n : Nat) : whK (.ok false w) ρ t b n = .nx ρ w := rfl
def tryK (r : SR) (cs ks : List Nat) (i : Nat) (suite : SF) : SR := match r with
  | .ex c ns xs ρ' w' => if c ∈ cs then suiteK i (suite (ρ'.set i (.exc c ns xs)) w') else if c ∈ ks then .ex c ns xs ρ' w' else .bad
  | r => r
theorem sTry_w (body : SF) (cs ks : List Nat) (i : Nat) (suite : SF) : sTry body cs ks i suite ρ w = tryK (body ρ w) cs ks i suite := by unfold sTry tryK; cases body ρ w <;> rfl
theorem tryK_nx (cs ks : List Nat) (i : Nat) (s : SF) : tryK (.nx ρ w) cs ks i s = .nx ρ w := rfl
theorem tryK_rt (d : D) (cs ks : List Nat) (i : Nat) (s : SF) : tryK (.rt d w) cs ks i s = .rt d w := rfl
theorem tryK_ex {c : Nat} (ns : List Str) (xs : List D) {cs : List Nat} (ks : List Nat) (i : Nat) (s : SF) (h : c ∈ cs) : tryK (.ex c ns xs ρ w) cs ks i s = suiteK i (s (ρ.set i (.exc c ns xs)) w) := by unfold tryK; simp only [if_pos h]
theorem suiteK_nx (i : Nat) : suiteK i (.nx ρ w) = .nx (wipeX (ρ.set i .none)) w := rfl
theorem suiteK_rt (i : Nat) (d : D) : suiteK i (.rt d w) = .rt d w := rfl
theorem wipe0 : wipeX [] = [] := rfl
theorem wipe_v (d : D) (ρ : Env) : wipeX (.val d :: ρ) = .val d :: wipeX ρ := rfl
theorem wipe_n (ρ : Env) : wipeX (.none :: ρ) = .none :: wipeX ρ := rfl
theorem wipe_o (xs : List D) (ρ : Env) : wipeX (.own xs :: ρ) = .own xs :: wipeX ρ := rfl
def callK (r : SR) : R D := match r with
  | .nx _ w' => .ok .non w'
  | .rt d w' => .ok d w'
  | .ex c ns xs _ w' => .ex c ns xs w'
  | _ => .bad
theorem call_w (n : Nat) (b : SF) (ds : List D) : callF n b ds w = callK (b (vals ds ++ List.replicate (n - ds.length) .none) w) := by unfold callF callK; cases b (vals ds ++ List.replicate (n - ds.length) .none) w <;> rfl
theorem callK_nx : callK (.nx ρ w) = .ok .non w := rfl
theorem callK_rt (d : D) : callK (.rt d w) = .ok d w := rfl
theorem callK_ex (c : Nat) (ns : List Str) (xs : List D) : callK (.ex c ns xs ρ w) = .ex c ns xs w := rfl
theorem vals0 : vals [] = [] := rfl
theorem vals1 (d : D) (ds : List D) : vals (d :: ds) = .val d :: vals ds := rfl
end
end FL

/-! P2: numbers in lowest terms as Lean's fractions; sizes; equal data. -/
namespace FL
open PySem
/-! ### lowest terms, by Lean's own fractions -/
def lowA (a b : Int) : Int := if b < 0 then (-a).fdiv (Nat.gcd a.natAbs b.natAbs : Nat) else a.fdiv (Nat.gcd a.natAbs b.natAbs : Nat)
def lowB (a b : Int) : Int := if b < 0 then (-b).fdiv (Nat.gcd a.natAbs b.natAbs : Nat) else b.fdiv (Nat.gcd a.natAbs b.natAbs : Nat)
theorem gcd_ne {a b : Int} (h : b ≠ 0) : ((Nat.gcd a.natAbs b.natAbs : Nat) : Int) ≠ 0 := by
  have : Nat.gcd a.natAbs b.natAbs ≠ 0 := fun z => by
    have := (Nat.gcd_eq_zero_iff.mp z).2
    omega
  omega
theorem gcd_sz {k : Nat} {a b : Int} (h : b ≠ 0) (hb : Sz k b) : Sz k (Nat.gcd a.natAbs b.natAbs : Nat) := by
  have := Nat.le_of_dvd (by omega : 0 < b.natAbs) (Nat.gcd_dvd_right a.natAbs b.natAbs)
  unfold Sz at *
  simp only [Int.natAbs_natCast]
  omega
theorem low_q {a b : Int} (h : b ≠ 0) : lowA a b = (Rat.divInt a b).num ∧ lowB a b = ((Rat.divInt a b).den : Int) := by
  have g0 : (0 : Int) ≤ (Nat.gcd a.natAbs b.natAbs : Nat) := by omega
  have ec : b.gcd a = Nat.gcd a.natAbs b.natAbs := by unfold Int.gcd; exact Nat.gcd_comm _ _
  rw [Rat.num_divInt, Rat.den_divInt, if_neg h, ec]
  unfold lowA lowB
  by_cases l : b < 0
  · rw [if_pos l, if_pos l, Int.sign_eq_neg_one_of_neg l, Int.fdiv_eq_ediv_of_nonneg _ g0, Int.fdiv_eq_ediv_of_nonneg _ g0]
    refine ⟨by rw [Int.neg_one_mul], ?_⟩
    rw [Int.natCast_ediv, show ((b.natAbs : Nat) : Int) = -b by omega]
  · rw [if_neg l, if_neg l, Int.sign_eq_one_of_pos (by omega), Int.fdiv_eq_ediv_of_nonneg _ g0, Int.fdiv_eq_ediv_of_nonneg _ g0]
    refine ⟨by rw [Int.one_mul], ?_⟩
    rw [Int.natCast_ediv, show ((b.natAbs : Nat) : Int) = b by omega]
def SzQ (k : Nat) (q : Rat) : Prop := Sz k q.num ∧ Sz k (q.den : Int)
theorem SzQ.mono {k l : Nat} {q : Rat} (h : SzQ k q) (hl : k ≤ l) : SzQ l q := ⟨h.1.mono hl, h.2.mono hl⟩
theorem den0 (q : Rat) : (q.den : Int) ≠ 0 := by have := q.den_nz; omega
theorem denp (q : Rat) : 0 < (q.den : Int) := by have := q.den_nz; omega
theorem szq_div {k : Nat} {a b : Int} (h : b ≠ 0) (ha : Sz k a) (hb : Sz k b) : SzQ k (Rat.divInt a b) := by
  unfold SzQ Sz at *
  rw [Rat.num_divInt, Rat.den_divInt, if_neg h]
  refine ⟨Nat.lt_of_le_of_lt ?_ ha, ?_⟩
  · rw [Int.natAbs_ediv_of_dvd (Int.dvd_trans (Int.gcd_dvd_right ..) (Int.dvd_mul_left ..)), Int.natAbs_mul, Int.natAbs_sign_of_ne_zero h, Nat.one_mul]
    exact Nat.div_le_self _ _
  · rw [Int.natAbs_natCast]
    exact Nat.lt_of_le_of_lt (Nat.div_le_self _ _) hb
theorem add_q (x y : Rat) : Rat.divInt (x.num * y.den + y.num * x.den) (x.den * y.den) = x + y := by
  rw [Rat.add_def', ← Int.natCast_mul, Rat.divInt_ofNat]
theorem mul_q (x y : Rat) : Rat.divInt (x.num * y.num) (x.den * y.den) = x * y := by
  rw [Rat.mul_def', ← Int.natCast_mul, Rat.divInt_ofNat]
theorem neg_q (x : Rat) : (-x).den = x.den := rfl
theorem sub_q (x y : Rat) : Rat.divInt (x.num * y.den - y.num * x.den) (x.den * y.den) = x - y := by
  rw [Rat.sub_eq_add_neg, ← add_q, Rat.neg_num, neg_q, Int.neg_mul, Int.sub_eq_add_neg]
theorem div_q (x y : Rat) : Rat.divInt (x.num * y.den) (x.den * y.num) = x / y := by
  rw [Rat.div_def, Rat.inv_def, ← Rat.divInt_mul_divInt, Rat.num_divInt_den]
theorem den_mul0 (x y : Rat) : (x.den : Int) * y.den ≠ 0 := Int.mul_ne_zero (den0 x) (den0 y)
theorem SzQ.add {k l : Nat} {x y : Rat} (h : SzQ k x) (g : SzQ l y) : SzQ (k + l + 1) (x + y) := by
  rw [← add_q]
  refine szq_div (den_mul0 x y) ?_ ((h.2.mul g.2).mono (by omega))
  have a := h.1.mul g.2
  have b := (g.1.mul h.2).mono (show l + k ≤ k + l by omega)
  exact a.add b
theorem SzQ.mul {k l : Nat} {x y : Rat} (h : SzQ k x) (g : SzQ l y) : SzQ (k + l) (x * y) := by
  rw [← mul_q]
  exact szq_div (den_mul0 x y) (h.1.mul g.1) (h.2.mul g.2)
theorem SzQ.div {k l : Nat} {x y : Rat} (h : SzQ k x) (g : SzQ l y) (n : y ≠ 0) : SzQ (k + l) (x / y) := by
  rw [← div_q]
  exact szq_div (Int.mul_ne_zero (den0 x) fun z => n (Rat.num_eq_zero.mp z)) (h.1.mul g.2) (h.2.mul g.1)
theorem SzQ.neg {k : Nat} {x : Rat} (h : SzQ k x) : SzQ k (-x) := ⟨by rw [Rat.neg_num]; exact h.1.neg, h.2⟩
theorem SzQ.sub {k l : Nat} {x y : Rat} (h : SzQ k x) (g : SzQ l y) : SzQ (k + l + 1) (x - y) := by
  rw [Rat.sub_eq_add_neg]; exact h.add g.neg
theorem q_beq (x y : Rat) : (x.num == y.num && (x.den : Int) == y.den) = decide (x = y) := by
  by_cases h : x = y
  · subst h; simp
  · rw [decide_eq_false h, Bool.eq_false_iff]
    intro z
    simp only [Bool.and_eq_true, beq_iff_eq] at z
    exact h (Rat.ext z.1 (by omega))
/-! ### sums -/
def sumQ : List Rat → Rat
  | [] => 0
  | x :: xs => x + sumQ xs
theorem sumQ_app : ∀ xs ys : List Rat, sumQ (xs ++ ys) = sumQ xs + sumQ ys
  | [], ys => (Rat.zero_add _).symm
  | x :: xs, ys => by
    show x + sumQ (xs ++ ys) = x + sumQ xs + sumQ ys
    rw [sumQ_app xs ys, Rat.add_assoc]
theorem sumQ_rev : ∀ xs : List Rat, sumQ xs.reverse = sumQ xs
  | [] => rfl
  | x :: xs => by
    rw [List.reverse_cons, sumQ_app, sumQ_rev xs]
    show sumQ xs + (x + 0) = x + sumQ xs
    rw [Rat.add_zero, Rat.add_comm]
theorem sumQ_mid (xs ys : List Rat) (x : Rat) : sumQ (xs ++ ys) + x = sumQ (xs ++ x :: ys) := by
  rw [sumQ_app, sumQ_app]
  show _ = sumQ xs + (x + sumQ ys)
  rw [Rat.add_assoc, Rat.add_comm x]
theorem szq_sum {k : Nat} : ∀ xs : List Rat, (∀ x ∈ xs, SzQ k x) → SzQ (1 + xs.length * (k + 1)) (sumQ xs)
  | [], _ => ⟨by rw [List.length_nil, Nat.zero_mul]; unfold Sz; decide, by rw [List.length_nil, Nat.zero_mul]; unfold Sz; decide⟩
  | x :: xs, h => ((h x (List.mem_cons_self ..)).add (szq_sum xs fun y hy => h y (List.mem_cons_of_mem _ hy))).mono (by rw [List.length_cons, Nat.add_mul]; omega)
/-! ### bounds -/
/-- a fraction within 10 ** 12 both ways -/
def Sm (q : Rat) : Prop := -1000000000000 ≤ q.num ∧ q.num ≤ 1000000000000 ∧ (q.den : Int) ≤ 1000000000000
theorem Sm.sz {q : Rat} (h : Sm q) : SzQ 40 q := by
  unfold Sm at h
  unfold SzQ Sz
  have : (2 ^ 40 : Nat) = 1099511627776 := by decide
  omega
theorem sm_div {a b : Int} (h : b ≠ 0) (ha : -1000000000000 ≤ a ∧ a ≤ 1000000000000) (hb : -1000000000000 ≤ b ∧ b ≤ 1000000000000) : Sm (Rat.divInt a b) := by
  have e1 : (Rat.divInt a b).num.natAbs ≤ a.natAbs := by
    rw [Rat.num_divInt, Int.natAbs_ediv_of_dvd (Int.dvd_trans (Int.gcd_dvd_right ..) (Int.dvd_mul_left ..)), Int.natAbs_mul, Int.natAbs_sign_of_ne_zero h, Nat.one_mul]
    exact Nat.div_le_self _ _
  have e2 : (Rat.divInt a b).den ≤ b.natAbs := by
    rw [Rat.den_divInt, if_neg h]
    exact Nat.div_le_self _ _
  unfold Sm
  omega
theorem divInt_nonneg {a b : Int} (ha : 0 ≤ a) (hb : 0 < b) : 0 ≤ (Rat.divInt a b).num := by
  rw [Rat.num_divInt, Int.sign_eq_one_of_pos hb, Int.one_mul]
  exact Int.ediv_nonneg ha (by omega)
theorem divInt_one (a : Int) : (Rat.divInt a 1).num = a ∧ (Rat.divInt a 1).den = 1 := by
  rw [Rat.num_divInt, Rat.den_divInt]
  simp
/-! ### as data -/
abbrev rq (q : Rat) : D := .tup [.int q.num, .int (q.den : Int)]
theorem rq_low {a b : Int} (h : b ≠ 0) : D.tup [.int (lowA a b), .int (lowB a b)] = rq (Rat.divInt a b) := by rw [(low_q h).1, (low_q h).2]
mutual
theorem eqv_refl : ∀ (n : Nat) (d : D), D.flat n d = true → D.eqv d d = true
  | n, .non, _ => by simp [D.eqv]
  | n, .bl b, _ => by simp [D.eqv]
  | n, .int i, _ => by simp [D.eqv]
  | n, .str x, _ => by simp [D.eqv]
  | n + 1, .lst xs, f => by
    simp only [D.flat] at f
    simp only [D.eqv]
    exact eqv_reflL n xs f
  | n + 1, .tup xs, f => by
    simp only [D.flat] at f
    simp only [D.eqv]
    exact eqv_reflL n xs f
  | 0, .tup xs, f => by simp [D.flat] at f
  | 0, .lst xs, f => by simp [D.flat] at f
  | n, .frz xs, f => by simp [D.flat] at f
  | n, .ins _ _ _, f => by simp [D.flat] at f
  | n, .hand, f => by simp [D.flat] at f
theorem eqv_reflL : ∀ (n : Nat) (ds : List D), D.flatL n ds = true → D.eqvL ds ds = true
  | _, [], _ => by simp [D.eqvL]
  | n, d :: ds, f => by
    simp only [D.flatL, Bool.and_eq_true] at f
    simp only [D.eqvL, eqv_refl n d f.1, eqv_reflL n ds f.2, Bool.and_self]
end
theorem flatL_map {α : Type} {f : α → D} {n : Nat} : ∀ xs : List α, (∀ x ∈ xs, D.flat n (f x) = true) → D.flatL n (xs.map f) = true
  | [], _ => by simp [D.flatL]
  | x :: xs, h => by
    rw [List.map_cons]
    simp only [D.flatL, h x (List.mem_cons_self ..), flatL_map xs (fun y hy => h y (List.mem_cons_of_mem _ hy)), Bool.and_self]
section
variable {w : Wd}
theorem eq_same {d : D} (h : D.flat 60 d = true) : eqD d d w = .ok (.bl true) w := by rw [eq_w ⟨h, h⟩, eqv_refl 60 d h]
theorem ne_same {d : D} (h : D.flat 60 d = true) : neD d d w = .ok (.bl false) w := by rw [ne_w ⟨h, h⟩, eqv_refl 60 d h]; rfl
theorem eq_rq (x y : Rat) : eqD (rq x) (rq y) w = .ok (.bl (decide (x = y))) w := by rw [eq_pair, q_beq]
theorem ne_rq (x y : Rat) : neD (rq x) (rq y) w = .ok (.bl (!decide (x = y))) w := by rw [ne_pair, q_beq]
end
end FL

/-! P3: more rows of evaluation: enumerate, range, slices, comprehensions over lists told by a function, own lists. -/
namespace FL
open PySem
section
variable {ρ : Env} {w : Wd}
/-! enumerate -/
def enumAt : Nat → List D → List D
  | _, [] => []
  | n, x :: xs => .tup [.int (n : Int), x] :: enumAt (n + 1) xs
theorem enumL_at (xs : List D) : enumL xs = enumAt 0 xs := by
  have go : ∀ (xs : List D) (n : Nat), (xs.zipIdx n).map (fun p => D.tup [.int (p.2 : Int), p.1]) = enumAt n xs := by
    intro xs
    induction xs with
    | nil => intro n; rfl
    | cons x xs ih => intro n; rw [List.zipIdx_cons, List.map_cons, ih]; rfl
  exact go xs 0
theorem iEnum_w (e : EF) : iEnum e ρ w = bindK (e ρ w) fun x => M.bind (seqOf x) fun xs => M.ret (enumAt 0 xs) := by
  show bindK (e ρ w) _ = _
  simp only [enumL_at]
theorem forT2 (i j : Nat) (b : SF) (x y : D) (xs : List D) : forL (gT [i, j]) b (.tup [x, y] :: xs) ρ w = loopF (b ((ρ.set i (.val x)).set j (.val y)) w) (gT [i, j]) b xs := forL_cons rfl
theorem forT3 (i j k : Nat) (b : SF) (x y z : D) (xs : List D) : forL (gT [i, j, k]) b (.tup [x, y, z] :: xs) ρ w = loopF (b (((ρ.set i (.val x)).set j (.val y)).set k (.val z)) w) (gT [i, j, k]) b xs := forL_cons rfl
/-! range -/
def rng : Nat → Nat → List D
  | _, 0 => []
  | n, m + 1 => .int (n : Int) :: rng (n + 1) m
theorem rangeL_at (n m : Nat) : rangeL (n : Int) ((n : Int) + (m : Int)) = rng n m := by
  unfold rangeL
  rw [show ((n : Int) + (m : Int) - (n : Int)).toNat = m by omega]
  induction m generalizing n with
  | zero => rfl
  | succ m ih =>
    rw [List.range_succ_eq_map, List.map_cons, List.map_map]
    show _ = D.int (n : Int) :: rng (n + 1) m
    rw [← ih (n + 1)]
    refine congr (congrArg _ (by simp)) (List.map_congr_left fun k _ => ?_)
    show D.int _ = D.int _
    congr 1
    show (n : Int) + ((k + 1 : Nat) : Int) = ((n + 1 : Nat) : Int) + (k : Int)
    omega
theorem range0 (m : Nat) (h : m < 1000000) : rangeM (.int 0) (.int (m : Int)) w = .ok (rng 0 m) w := by
  rw [range_w (by omega)]
  rw [← rangeL_at 0 m, show ((0 : Nat) : Int) + (m : Int) = (m : Int) by omega]
  rfl
theorem range0i {i : Int} (h0 : 0 ≤ i) (h : i < 1000000) : rangeM (.int 0) (.int i) w = .ok (rng 0 i.toNat) w := by
  have e : i = ((i.toNat : Nat) : Int) := by omega
  rw [e, range0 _ (by omega), Int.toNat_natCast]
theorem rng_map (m : Nat) : rng 0 m = (List.range m).map fun (k : Nat) => D.int (k : Int) := by
  have := rangeL_at 0 m
  rw [← this]
  unfold rangeL
  rw [show (((0 : Nat) : Int) + (m : Int) - ((0 : Nat) : Int)).toNat = m by omega]
  exact List.map_congr_left fun k _ => by
    show D.int _ = D.int _
    congr 1
    omega
/-! slices -/
def slK (x : D) (lo : Option Int) (y : D) : M D := match y with | .int i => sliceD x lo (some i) | _ => M.fail
def slL (x : D) (y : D) : M D := match y with | .int i => sliceD x (some i) none | _ => M.fail
theorem sl_hi (a e : EF) : eSlice a none (some e) ρ w = bindK (a ρ w) fun x => M.bind (e ρ) fun y => slK x none y := by
  show bindK (a ρ w) _ = _
  congr 1
  funext x w1
  show bindK (bindK ((e ρ) w1) _) _ = bindK ((e ρ) w1) _
  cases (e ρ) w1 with
  | ok y w2 => cases y <;> rfl
  | ex => rfl
  | bad => rfl
theorem sl_lo (a e : EF) : eSlice a (some e) none ρ w = bindK (a ρ w) fun x => M.bind (e ρ) fun y => slL x y := by
  show bindK (a ρ w) _ = _
  congr 1
  funext x w1
  show bindK (bindK ((e ρ) w1) _) _ = bindK ((e ρ) w1) _
  cases (e ρ) w1 with
  | ok y w2 => cases y <;> rfl
  | ex => rfl
  | bad => rfl
theorem slK_v (xs : List D) (k : Nat) : slK (.lst xs) none (.int (k : Int)) w = .ok (.lst (xs.take k)) w := by
  show R.ok (D.lst (cutL xs none (some (k : Int)))) w = _
  unfold cutL cutAt
  simp only [if_pos (Int.natCast_nonneg k), Int.toNat_natCast, List.drop_zero, Nat.sub_zero]
  congr 2
  rw [Nat.min_comm, ← List.take_take]
  exact List.take_of_length_le (by rw [List.length_take]; omega)
theorem slL_v (xs : List D) (k : Nat) : slL (.lst xs) (.int (k : Int)) w = .ok (.lst (xs.drop k)) w := by
  show R.ok (D.lst (cutL xs (some (k : Int)) none)) w = _
  unfold cutL cutAt
  simp only [if_pos (Int.natCast_nonneg k), Int.toNat_natCast]
  congr 2
  by_cases h : k ≤ xs.length
  · rw [Nat.min_eq_left h, List.take_of_length_le (by rw [List.length_drop]; omega)]
  · rw [Nat.min_eq_right (by omega), List.drop_length, List.drop_eq_nil_of_le (by omega)]; simp
/-! comprehensions over lists told by a function -/
theorem lcMap {α : Type} {f g : α → D} (i : Nat) (e : EF) : ∀ xs : List α, (∀ x ∈ xs, e (ρ.set i (.val (f x))) w = .ok (g x) w) → lcL (gN i) tYes e ρ (xs.map f) w = .ok (xs.map g) w
  | [], _ => rfl
  | x :: xs, h => by
    rw [List.map_cons, lcN, tYes_w, lcT_t, h x (List.mem_cons_self ..), lcE_v, lcMap i e xs fun y hy => h y (List.mem_cons_of_mem _ hy), bindK_ok, ret_w, List.map_cons]
theorem lcNone {α : Type} {f : α → D} (i : Nat) (t : TF) (e : EF) : ∀ xs : List α, (∀ x ∈ xs, t (ρ.set i (.val (f x))) w = .ok false w) → lcL (gN i) t e ρ (xs.map f) w = .ok [] w
  | [], _ => rfl
  | x :: xs, h => by
    rw [List.map_cons, lcN, h x (List.mem_cons_self ..), lcT_f, lcNone i t e xs fun y hy => h y (List.mem_cons_of_mem _ hy)]
/-! own lists -/
def sMK (i : Nat) (f : List D → List D → Option (List D)) (s : Option Slot) (r : R (List D)) (ρ : Env) : SR := match s with
  | some (.own xs) => onK r ρ (mutK i f xs ρ)
  | _ => .bad
theorem sMut_w (i : Nat) (f : List D → List D → Option (List D)) (es : List EF) : sMut i f es ρ w = sMK i f ρ[i]? (evs es ρ w) ρ := by
  unfold sMut sMK
  cases ρ[i]? with
  | none => rfl
  | some s => cases s with
    | own xs => show onE _ _ _ _ = _; unfold onE onK; cases evs es ρ w <;> rfl
    | _ => rfl
theorem sMK_v (i : Nat) (f : List D → List D → Option (List D)) (xs ds : List D) : sMK i f (some (.own xs)) (.ok ds w) ρ = mutK i f xs ρ ds w := rfl
theorem mutK_v (i : Nat) (f : List D → List D → Option (List D)) {xs ds ys : List D} (h : f xs ds = some ys) : mutK i f xs ρ ds w = .nx (ρ.set i (.own ys)) w := by unfold mutK; rw [h]
theorem ins_v {xs : List D} {k : Nat} {d : D} (hk : k ≤ 1000000) (h : xs.length < line) : insF xs [.int (k : Int), d] = some (xs.take k ++ [d] ++ xs.drop k) := by
  unfold insF
  simp only [Int.toNat_natCast]
  rw [if_pos ⟨by omega, by omega, h⟩]
theorem bor_len (i : Nat) {xs : List D} (h : ρ[i]? = some (.own xs)) (n : noHandL xs = true) : eBor (eCall (un1 lenD) [eVar i]) ρ w = .ok (.int xs.length) w := by
  have e : (borE ρ)[i]? = some (.val (.lst xs)) := by
    unfold borE
    rw [List.getElem?_map, h]
    show some (if noHandL xs = true then Slot.val (.lst xs) else .none) = _
    rw [if_pos n]
  have e2 : eCall (un1 lenD) [eVar i] (borE ρ) none = .ok (.int xs.length) none := by
    rw [eCall_w, evs1_w, eVar_w, e, varK_v, bindK_ok, bind_w, evs0_w, bindK_ok, ret_w, bindK_ok, un1_w, len_lst]
  unfold eBor
  rw [e2]
  rfl
theorem itemMap {α : Type} {f : α → D} {xs : List α} {k : Nat} {x : α} (h : xs[k]? = some x) : itemAt (xs.map f) (k : Int) = some (f x) := item_nat (by omega) (by rw [Int.toNat_natCast, List.getElem?_map, h]; rfl)
/-! isinstance(x, (list, tuple)) -/
theorem isi_lt_i (i : Int) : isiB [.list, .tuple] (.int i) w = .ok (.bl false) w := by rw [isi_w (n := "int") rfl rfl]; rfl
theorem isi_lt_b (i : Bool) : isiB [.list, .tuple] (.bl i) w = .ok (.bl false) w := by rw [isi_w (n := "bool") rfl rfl]; rfl
theorem isi_lt_n : isiB [.list, .tuple] .non w = .ok (.bl false) w := by rw [isi_w (n := "NoneType") rfl rfl]; rfl
theorem isi_lt_s (i : Str) : isiB [.list, .tuple] (.str i) w = .ok (.bl false) w := by rw [isi_w (n := "str") rfl rfl]; rfl
theorem isi_lt_t (i : List D) : isiB [.list, .tuple] (.tup i) w = .ok (.bl true) w := by rw [isi_w (n := "tuple") rfl rfl]; rfl
theorem isi_lt_l (i : List D) : isiB [.list, .tuple] (.lst i) w = .ok (.bl true) w := by rw [isi_w (n := "list") rfl rfl]; rfl
theorem isi_lt_f (i : List D) : isiB [.list, .tuple] (.frz i) w = .ok (.bl true) w := by rw [isi_w (n := "list") rfl rfl]; rfl
/-! repr -/
theorem reprL_l {xs : List D} (h : D.flat 60 (.lst xs) = true) (s : (D.lst xs).py.showable = true) (z : (D.lst xs).py.shown.length ≤ sizeLine) : reprL [.lst xs] w = .ok (.str (D.lst xs).py.shown) w := by
  show reprK (.lst xs) w = _
  unfold reprK
  simp only [if_w]
  rw [if_pos ⟨h, s, z⟩]; rfl
end
end FL

/-! P4: mirrors of classes run, in plain Lean. -/
namespace FL
open PySem
section
variable {ρ : Env} {w : Wd}
theorem eMake_w (k : Nat) (ns : List Str) (F : List D → M (List D)) (fs : List EF) : eMake k ns F fs ρ w = bindK (evs fs ρ w) fun ds => M.bind (F ds) fun xs => M.ret (.ins k ns xs) := rfl
theorem ne_bl (a b : Bool) : neD (.bl a) (.bl b) w = .ok (.bl (!(a == b))) w := by rw [ne_w ⟨rfl, rfl⟩]; rfl
theorem eq_bl (a b : Bool) : eqD (.bl a) (.bl b) w = .ok (.bl (a == b)) w := by rw [eq_w ⟨rfl, rfl⟩]; rfl
def andB (c : Bool) (r : R D) (w : Wd) : R D := if c = true then r else .ok (.bl false) w
theorem andE_b (c : Bool) (b : EF) : andE (.ok (.bl c) w) b ρ = andB c (b ρ w) w := by cases c <;> rfl
theorem andB_v (c d : Bool) : andB c (.ok (.bl d) w) w = .ok (.bl (c && d)) w := by cases c <;> rfl
/-- loops over a stretch of whole numbers, by what stays -/
theorem for_inv {b : SF} {i : Nat} (I : Env → Prop) : ∀ (m n : Nat) (ρ : Env), I ρ → (∀ k, n ≤ k → k < n + m → ∀ ρ, I ρ → ∃ ρ', b (ρ.set i (.val (.int (k : Int)))) w = .nx ρ' w ∧ I ρ') → ∃ ρ', forL (gN i) b (rng n m) ρ w = .nx ρ' w ∧ I ρ'
  | 0, n, ρ, h, _ => ⟨ρ, rfl, h⟩
  | m + 1, n, ρ, h, t => by
    obtain ⟨ρ1, e1, h1⟩ := t n (by omega) (by omega) ρ h
    obtain ⟨ρ2, e2, h2⟩ := for_inv I m (n + 1) ρ1 h1 fun k h1 h2 => t k (by omega) (by omega)
    refine ⟨ρ2, ?_, h2⟩
    show forL (gN i) b (D.int (n : Int) :: rng (n + 1) m) ρ w = _
    rw [forN, e1, loopF_nx, e2]
theorem bor_last (i : Nat) {xs : List D} {d : D} (h : ρ[i]? = some (.own xs)) (n : noHandL xs = true) (hl : itemAt xs (-1) = some d) (hd : noLst d = true) : eBor (eBin ixD (eVar i) (eUn negD (eC (.int 1)))) ρ w = .ok d w := by
  have e : (borE ρ)[i]? = some (.val (.lst xs)) := by
    unfold borE
    rw [List.getElem?_map, h]
    show some (if noHandL xs = true then Slot.val (.lst xs) else .none) = _
    rw [if_pos n]
  have e2 : eBin ixD (eVar i) (eUn negD (eC (.int 1))) (borE ρ) none = .ok d none := by
    rw [eBin_w, eVar_w, e, varK_v, bindK_ok, bind_w, eUn_w, eC_w, bindK_ok, neg_int, bindK_ok, ix_lst, hl]; rfl
  unfold eBor
  rw [e2]
  exact if_pos hd
theorem item_last (xs : List D) (d : D) : itemAt (xs ++ [d]) (-1) = some d := by
  unfold itemAt ixP
  rw [List.length_append, List.length_singleton, if_neg (by omega), if_pos (by omega)]
  show (xs ++ [d])[(((xs.length + 1 : Nat) : Int) + -1).toNat]? = some d
  rw [show (((xs.length + 1 : Nat) : Int) + -1).toNat = xs.length by omega, List.getElem?_append_right (Nat.le_refl _), Nat.sub_self]
  rfl
theorem item4 (x y z u v : D) (xs : List D) : itemAt (x :: y :: z :: u :: v :: xs) 4 = some v := item_nat (i := 4) (by decide) rfl
theorem item5 (x y z u v a : D) (xs : List D) : itemAt (x :: y :: z :: u :: v :: a :: xs) 5 = some a := item_nat (i := 5) (by decide) rfl
theorem item6 (x y z u v a b : D) (xs : List D) : itemAt (x :: y :: z :: u :: v :: a :: b :: xs) 6 = some b := item_nat (i := 6) (by decide) rfl
theorem item7 (x y z u v a b c : D) (xs : List D) : itemAt (x :: y :: z :: u :: v :: a :: b :: c :: xs) 7 = some c := item_nat (i := 7) (by decide) rfl
def unpLK (is : List Nat) (ρ : Env) (d : D) (w : Wd) : SR := match gL is d ρ with
  | some ρ' => .nx ρ' w
  | none => .bad
theorem sUnpL_w (is : List Nat) (e : EF) : sUnpL is e ρ w = onK (e ρ w) ρ (unpLK is ρ) := by
  unfold sUnpL onE onK
  cases e ρ w <;> rfl
theorem unpL_2 (i j : Nat) (x y : D) : unpLK [i, j] ρ (.lst [x, y]) w = .nx ((ρ.set i (.val x)).set j (.val y)) w := rfl
theorem unpL_3 (i j k : Nat) (x y z : D) : unpLK [i, j, k] ρ (.lst [x, y, z]) w = .nx (((ρ.set i (.val x)).set j (.val y)).set k (.val z)) w := rfl
theorem unpL_6 (i j k l m n : Nat) (x y z u v a : D) : unpLK [i, j, k, l, m, n] ρ (.lst [x, y, z, u, v, a]) w = .nx ((((((ρ.set i (.val x)).set j (.val y)).set k (.val z)).set l (.val u)).set m (.val v)).set n (.val a)) w := rfl
theorem lt_line {n : Nat} (h : n < 1000) : n < line := by unfold line; omega
theorem le_line {n : Nat} (h : n ≤ 1000) : n ≤ line := by unfold line; omega
/-! ### == with objects -/
variable {T : Tab}
theorem eqI_ins {n k : Nat} {ns : List Str} {xs : List D} {y : D} {F : List D → M D} {b : Bool} (hs : solid T (.ins k ns xs) = true) (hy : solid T y = true) (hT : T k = some F) (h : F [.ins k ns xs, y] w = .ok (.bl b) w) : onlyBl (eqI T (n + 1)) (.ins k ns xs) y w = .ok (.bl b) w := by
  apply onlyBl_ok
  unfold eqI
  rw [if_pos (by rw [hs, hy]; rfl)]
  simp only [hT]
  rw [bind_w]
  unfold noEx
  rw [h]
  rfl
theorem neI_ins {n k : Nat} {ns : List Str} {xs : List D} {y : D} {F : List D → M D} {b : Bool} (hs : solid T (.ins k ns xs) = true) (hy : solid T y = true) (hT : T k = some F) (h : F [.ins k ns xs, y] w = .ok (.bl b) w) : onlyBl (neI T (n + 1)) (.ins k ns xs) y w = .ok (.bl (!b)) w := by
  apply onlyBl_ok
  show neK T n _ _ w = _
  unfold neK
  rw [if_pos (by rw [hs, hy]; rfl)]
  simp only [hT]
  rw [bind_w]
  unfold noEx
  rw [h]
  rfl
end
end FL

/-! P5: mirrors run, in plain Lean: inits, borrows, items, stores. -/
namespace FL
open PySem
section
variable {ρ : Env} {w : Wd}
def borK (r : R D) (w : Wd) : R D := match r with
  | .ok d none => if noLst d = true then .ok d w else .bad
  | .ex c ns xs none => if noLstL xs = true then .ex c ns xs w else .bad
  | _ => .bad
theorem eBor_w (e : EF) : eBor e ρ w = borK (e (borE ρ) none) w := by
  unfold eBor borK
  rfl
theorem borK_v {d : D} (h : noLst d = true) : borK (.ok d none) w = .ok d w := if_pos h
theorem borK_ex (c : Nat) (ns : List Str) {xs : List D} (h : noLstL xs = true) : borK (.ex c ns xs none) w = .ex c ns xs w := if_pos h
def borT (r : R Bool) (w : Wd) : R Bool := match r with
  | .ok d none => .ok d w
  | .ex c ns xs none => if noLstL xs = true then .ex c ns xs w else .bad
  | _ => .bad
theorem tBor_w (t : TF) : tBor t ρ w = borT (t (borE ρ) none) w := by
  unfold tBor borT
  rfl
theorem borT_v (b : Bool) : borT (.ok b none) w = .ok b w := rfl
theorem borE_n : borE [] = [] := rfl
theorem borE_c (s : Slot) (ρ : Env) : borE (s :: ρ) = borS s :: borE ρ := rfl
theorem borS_n : borS .none = .none := rfl
theorem borS_v {d : D} (h : noHand d = true) : borS (.val d) = .val d := if_pos h
theorem borS_h : borS (.val .hand) = .none := rfl
theorem borS_o {xs : List D} (h : noHandL xs = true) : borS (.own xs) = .val (.lst xs) := if_pos h
theorem borS_nest {xs : List D} (h : noHandL xs = true) : borS (.nest xs) = .val (.lst xs) := if_pos h
theorem varK_nest (xs : List D) : varK (some (.nest xs)) w = .ok (.lst xs) w := rfl
theorem noHandL_map {α : Type} {f : α → D} (h : ∀ x, noHand (f x) = true) : ∀ xs : List α, noHandL (xs.map f) = true
  | [] => rfl
  | x :: xs => by
    show (noHand (f x) && noHandL (xs.map f)) = true
    rw [h x, noHandL_map h xs]
    rfl
/-! inits -/
def slfK (s : Option Slot) (es : List EF) (ρ : Env) (w : Wd) : R (List D) := match s with
  | some .slf => evs es ρ w
  | _ => .bad
def iniK (r : SR) (es : List EF) : R (List D) := match r with
  | .nx ρ w => slfK ρ[0]? es ρ w
  | .ex c ns xs _ w => .ex c ns xs w
  | _ => .bad
theorem init_w (n : Nat) (b : SF) (es : List EF) (ds : List D) : initF n b es ds w = iniK (b (.slf :: (vals ds ++ List.replicate (n - ds.length - 1) .none)) w) es := by
  unfold initF stepN iniK slfK
  rfl
theorem iniK_nx (es : List EF) : iniK (.nx ρ w) es = slfK ρ[0]? es ρ w := rfl
theorem iniK_ex (c : Nat) (ns : List Str) (xs : List D) (es : List EF) : iniK (.ex c ns xs ρ w) es = .ex c ns xs w := rfl
theorem slfK_v (es : List EF) : slfK (some .slf) es ρ w = evs es ρ w := rfl
/-! items of own lists -/
def ownK (s : Option Slot) (k : EF) (ρ : Env) (w : Wd) : R D := match s with
  | some (.own xs) => bindK (k ρ w) (ixL xs)
  | _ => .bad
theorem eOwnIx_w (i : Nat) (k : EF) : eOwnIx i k ρ w = ownK ρ[i]? k ρ w := by
  unfold eOwnIx ownK
  cases ρ[i]? with
  | none => rfl
  | some s => cases s <;> rfl
theorem ownK_v (xs : List D) (k : EF) : ownK (some (.own xs)) k ρ w = bindK (k ρ w) (ixL xs) := rfl
theorem ixL_w (xs : List D) (i : Int) : ixL xs (.int i) w = itK (itemAt xs i) w := by unfold ixL itK; simp only; cases itemAt xs i <;> rfl
def itmK (s : Option Slot) (i : Nat) (k e : EF) (ρ : Env) (w : Wd) : SR := match s with
  | some (.own _) => onK (bindK (e ρ w) fun d => M.bind (k ρ) fun j => M.ret [d, j]) ρ (stK i ρ)
  | _ => .bad
theorem onE_K {α : Type} (m : M α) (k : α → Wd → SR) : onE m ρ w k = onK (m w) ρ k := by unfold onE onK; cases m w <;> rfl
theorem sItem_w (i : Nat) (k e : EF) : sItem i k e ρ w = itmK ρ[i]? i k e ρ w := by
  unfold sItem itmK
  cases ρ[i]? with
  | none => rfl
  | some s => cases s with
    | own xs => exact onE_K _ _
    | _ => rfl
theorem itmK_v (i : Nat) (xs : List D) (k e : EF) : itmK (some (.own xs)) i k e ρ w = onK (bindK (e ρ w) fun d => M.bind (k ρ) fun j => M.ret [d, j]) ρ (stK i ρ) := rfl
theorem stK_v {i : Nat} {xs : List D} {d : D} {j : Int} {n : Nat} (h : ρ[i]? = some (.own xs)) (e : ixP xs.length j = some n) : stK i ρ [d, .int j] w = .nx (ρ.set i (.own (xs.set n d))) w := by
  unfold stK
  simp only [h, e]
theorem ixP_in {n : Nat} {j : Int} (h0 : 0 ≤ j) (h : j < n) : ixP n j = some j.toNat := by unfold ixP; rw [if_pos ⟨h0, h⟩]
/-! stores -/
def ptTK (s : Option Slot) (i : Nat) (k e : EF) (ρ : Env) (w : Wd) : SR := match s with
  | some (.val (.lst _)) => onK (bindK (e ρ w) fun d => M.bind (k ρ) fun j => M.ret [d, j]) ρ (pTK i ρ)
  | _ => .bad
theorem sPutT_w (i : Nat) (k e : EF) : sPutT i k e ρ w = ptTK ρ[i]? i k e ρ w := by
  unfold sPutT ptTK
  cases ρ[i]? with
  | none => rfl
  | some s => cases s with
    | val d => cases d with
      | lst xs => exact onE_K _ _
      | _ => rfl
    | _ => rfl
theorem ptTK_v (i : Nat) (xs : List D) (k e : EF) : ptTK (some (.val (.lst xs))) i k e ρ w = onK (bindK (e ρ w) fun d => M.bind (k ρ) fun j => M.ret [d, j]) ρ (pTK i ρ) := rfl
theorem pTK_v {i : Nat} {xs : List D} {d : D} {j : Int} {n : Nat} (h : ρ[i]? = some (.val (.lst xs))) (e : ixP xs.length j = some n) (c1 : noT xs d = true) (c2 : noTL xs xs = true) (c3 : okT xs ρ w = true) : pTK i ρ [d, .int j] w = .nx ((wipT xs ρ).set i (.val (.lst (xs.set n d)))) w := by
  unfold pTK
  simp only [h, e]
  unfold pTS
  rw [if_pos (by rw [c1, c2, c3]; rfl)]
def p2KK (s : Option Slot) (i : Nat) (fj fk fe : EF) (ρ : Env) (w : Wd) : SR := match s with
  | some (.nest ds) => onK (bindK (fe ρ w) fun d => M.bind (fj ρ) fun j => M.bind (ixL ds j) fun _ => M.bind (fk ρ) fun k => M.ret [d, j, k]) ρ (p2K i ρ)
  | _ => .bad
theorem sPut2_w (i : Nat) (fj fk fe : EF) : sPut2 i fj fk fe ρ w = p2KK ρ[i]? i fj fk fe ρ w := by
  unfold sPut2 p2KK
  cases ρ[i]? with
  | none => rfl
  | some s => cases s with
    | nest ds => exact onE_K _ _
    | _ => rfl
theorem p2KK_v (i : Nat) (ds : List D) (fj fk fe : EF) : p2KK (some (.nest ds)) i fj fk fe ρ w = onK (bindK (fe ρ w) fun d => M.bind (fj ρ) fun j => M.bind (ixL ds j) fun _ => M.bind (fk ρ) fun k => M.ret [d, j, k]) ρ (p2K i ρ) := rfl
theorem p2K_v {i : Nat} {ds xs : List D} {d : D} {j k : Int} {m n : Nat} (h : ρ[i]? = some (.nest ds)) (e : ixP ds.length j = some m) (em : ds[m]? = some (.lst xs)) (en : ixP xs.length k = some n) (c1 : noT xs d = true) (c2 : noTL xs xs = true) (c3 : unlL xs ds = true) (c4 : ds.all (noTI xs) = true) (c5 : okT xs ρ w = true) :
    p2K i ρ [d, .int j, .int k] w = .nx ((wipT xs ρ).set i (.nest (ds.set m (.lst (xs.set n d))))) w := by
  unfold p2K
  simp only [h, e, em, en]
  unfold p2S
  rw [if_pos (by rw [c1, c2, c3, c4, c5]; rfl)]
theorem sNest_w (i : Nat) (f : NF) : sNest i f ρ w = onK (f ρ w) ρ fun ds w' => .nx (ρ.set i (.nest ds)) w' := onE_K _ _
theorem tIfE_w (t a b : TF) : tIfE t a b ρ w = bindK (t ρ w) fun k => if k = true then a ρ else b ρ := rfl
theorem eOrT_w (a b : EF) : eOrT a b ρ w = bindK (a ρ w) fun x => M.bind (truth x) fun k => if k = true then M.ret x else b ρ := rfl
theorem wipT_n (t : List D) : wipT t [] = [] := rfl
theorem wipT_c (t : List D) (s : Slot) (ρ : Env) : wipT t (s :: ρ) = wipS t s :: wipT t ρ := rfl
theorem wipS_none (t : List D) : wipS t .none = .none := rfl
theorem wipS_t {t : List D} {d : D} (h : noT t d = true) : wipS t (.val d) = .val d := if_pos h
theorem wipS_f {t : List D} {d : D} (h : noT t d = false) : wipS t (.val d) = .none := by unfold wipS; simp [h]
theorem wipS_o (t xs : List D) : wipS t (.own xs) = .own xs := rfl
/-! surely two -/
theorem flat_eqv_rq (x y : Rat) : D.eqv (rq x) (rq y) = decide (x = y) := by
  rw [← q_beq]
  simp only [D.eqv, D.eqvL, Bool.and_true]
end
/-! no list twice -/
theorem nd_sub {α : Type} [DecidableEq α] : ∀ (l m : List α), l.Nodup → (∀ x ∈ l, x ∈ m) → l.length ≤ m.length
  | [], m, _, _ => Nat.zero_le _
  | a :: l, m, n, h => by
    obtain ⟨na, n'⟩ := List.nodup_cons.mp n
    have := nd_sub l (m.erase a) n' fun x hx => (List.mem_erase_of_ne (fun (z : x = a) => na (by rw [← z]; exact hx))).mpr (h x (List.mem_cons_of_mem _ hx))
    have hm := h a (List.mem_cons_self ..)
    rw [List.length_erase_of_mem hm] at this
    have hp : 0 < m.length := List.length_pos_of_mem hm
    rw [List.length_cons]
    omega
end FL

/-! P6: rows of evaluation that need nothing, tagged once for all: core's, and tests on data. -/
namespace FL
open PySem
section
variable {α : Type}
theorem c_len (a : α) (as : List α) : (a :: as).length = as.length + 1 := rfl
theorem c_len0 : ([] : List α).length = 0 := rfl
theorem c_rep (n : Nat) (a : α) : List.replicate (n + 1) a = a :: List.replicate n a := rfl
theorem c_rep0 (a : α) : List.replicate 0 a = [] := rfl
theorem c_app (a : α) (as bs : List α) : (a :: as) ++ bs = a :: (as ++ bs) := rfl
theorem c_app0 (as : List α) : [] ++ as = as := rfl
theorem c_get0 (a : α) (as : List α) : (a :: as)[0]? = some a := rfl
theorem c_get1 (a : α) (as : List α) (n : Nat) : (a :: as)[n + 1]? = as[n]? := rfl
theorem c_set0 (a b : α) (as : List α) : (a :: as).set 0 b = b :: as := rfl
theorem c_set1 (a b : α) (as : List α) (n : Nat) : (a :: as).set (n + 1) b = a :: as.set n b := rfl
theorem c_zadd (n : Nat) : 0 + n = n := Nat.zero_add n
end
theorem c_nt : (!true) = false := rfl
theorem c_nf : (!false) = true := rfl
theorem c_aa (b : Bool) : (b && b) = b := by cases b <;> rfl
theorem c_at (b : Bool) : (b && true) = b := by cases b <;> rfl
theorem c_af (b : Bool) : (b && false) = false := by cases b <;> rfl
theorem c_ta (b : Bool) : (true && b) = b := rfl
theorem c_fa (b : Bool) : (false && b) = false := rfl
theorem c_ott (b : Bool) : (true || b) = true := rfl
theorem c_off (b : Bool) : (false || b) = b := rfl
theorem c_beq (i : Int) : (i == i) = true := beq_self_eq_true i
theorem c_bne (i : Int) : (i != i) = false := by simp
theorem c_dt : decide True = true := rfl
theorem c_df : decide False = false := rfl
/-! no hand, no list, flat -/
section
variable (i : Int) (b : Bool) (x : Str) (xs : List D) (d : D) (k : Nat) (ns : List Str) (n : Nat)
theorem nh_i : noHand (.int i) = true := rfl
theorem nh_b : noHand (.bl b) = true := rfl
theorem nh_s : noHand (.str x) = true := rfl
theorem nh_n : noHand .non = true := rfl
theorem nh_t : noHand (.tup xs) = noHandL xs := rfl
theorem nh_l : noHand (.lst xs) = noHandL xs := rfl
theorem nh_o : noHand (.ins k ns xs) = noHandL xs := rfl
theorem nh_0 : noHandL [] = true := rfl
theorem nh_c : noHandL (d :: xs) = (noHand d && noHandL xs) := rfl
theorem nl_i : noLst (.int i) = true := rfl
theorem nl_b : noLst (.bl b) = true := rfl
theorem nl_s : noLst (.str x) = true := rfl
theorem nl_n : noLst .non = true := rfl
theorem nl_t : noLst (.tup xs) = noLstL xs := rfl
theorem nl_o : noLst (.ins k ns xs) = noLstL xs := rfl
theorem nl_0 : noLstL [] = true := rfl
theorem nl_c : noLstL (d :: xs) = (noLst d && noLstL xs) := rfl
theorem non_n : D.isNon .non = true := rfl
theorem non_i : D.isNon (.int i) = false := rfl
theorem non_b : D.isNon (.bl b) = false := rfl
theorem non_s : D.isNon (.str x) = false := rfl
theorem non_t : D.isNon (.tup xs) = false := rfl
theorem non_l : D.isNon (.lst xs) = false := rfl
theorem non_o : D.isNon (.ins k ns xs) = false := rfl
variable {ρ : Env} {w : Wd}
theorem borS_vv {d : D} (h : noHand d = true) : borS (.val d) = .val d := borS_v h
theorem borS_oo {xs : List D} (h : noHandL xs = true) : borS (.own xs) = .val (.lst xs) := borS_o h
theorem borK_vv {d : D} (h : noLst d = true) : borK (.ok d none) w = .ok d w := borK_v h
end
section
variable {w : Wd}
theorem lenO_v {k : Nat} {F : List D → M D} {ns : List Str} {xs : List D} {i : Int} (h : F [.ins k ns xs] w = .ok (.int i) w) (h0 : 0 ≤ i) (h1 : i < 1000000) : lenO k F (.ins k ns xs) w = .ok (.int i) w := by
  unfold lenO
  simp only [if_true]
  rw [bind_w]
  unfold noEx
  rw [h]
  simp only [bindK_ok]
  unfold lenI
  simp only
  rw [if_pos ⟨h0, h1⟩]
  rfl
theorem lenL_v {k : Nat} {F : List D → M D} {ns : List Str} {xs : List D} {i : Int} (h : F [.ins k ns xs] w = .ok (.int i) w) (h0 : 0 ≤ i) (h1 : i < 1000000) : lenL k F [.ins k ns xs] w = .ok (.int i) w := by
  unfold lenL
  simp only [lenO_v h h0 h1]
theorem nList_w (e : EF) {ρ : FL.Env} : nList e ρ w = bindK (e ρ w) itemsD := rfl
theorem items_t (xs : List D) : itemsD (.tup xs) w = .ok xs w := rfl
theorem items_l (xs : List D) : itemsD (.lst xs) w = .ok xs w := rfl
end
section
variable (t xs ns' : List D) (d : D) (i : Int) (b : Bool) (x : Str) (k : Nat) (ns : List Str)
theorem noT_l : noT t (.lst xs) = (unlL t xs && noTL t xs) := rfl
theorem noT_t : noT t (.tup xs) = noTL t xs := rfl
theorem noT_o : noT t (.ins k ns xs) = noTL t xs := rfl
theorem noT_i : noT t (.int i) = true := rfl
theorem noT_b : noT t (.bl b) = true := rfl
theorem noT_s : noT t (.str x) = true := rfl
theorem noT_n : noT t .non = true := rfl
theorem noT_h : noT t .hand = true := rfl
theorem noT_0 : noTL t [] = true := rfl
theorem noT_c : noTL t (d :: xs) = (noT t d && noTL t xs) := rfl
end
section
variable {α : Type}
theorem c_ft : (false = true) = False := by simp
theorem c_it (a b : α) [Decidable True] : (if True then a else b) = a := if_pos trivial
theorem c_if (a b : α) [Decidable False] : (if False then a else b) = b := if_neg not_false
end
section
variable {w : Wd}
theorem eqI_int {T : Tab} (n : Nat) (k : Int) : eqI T (n + 1) (.int k) (.int k) w = .ok (.bl true) w := by
  have : eqI T (n + 1) (.int k) (.int k) = eqD (.int k) (.int k) := by
    unfold eqI
    simp only [solid, Bool.and_self, if_true]
  rw [this, eq_int, beq_self_eq_true]
theorem eqI_str {T : Tab} (n : Nat) {s : Str} (h : okS s) : eqI T (n + 1) (.str s) (.str s) w = .ok (.bl true) w := by
  have : eqI T (n + 1) (.str s) (.str s) = eqD (.str s) (.str s) := by
    unfold eqI
    simp only [solid, Bool.and_self, if_true]
  rw [this, eq_str h h, beq_self_eq_true]
theorem neI_tup2 {T : Tab} (k : Int) {s : Str} (h : okS s) : onlyBl (neI T 3) (.tup [.int k, .str s]) (.tup [.int k, .str s]) w = .ok (.bl false) w := by
  apply onlyBl_ok
  show neK T 2 _ _ w = _
  unfold neK
  simp only [solid, solidL, Bool.and_self, if_true]
  show M.bind (eqIs (elemI (eqI T 2)) [.int k, .str s] [.int k, .str s]) notBl w = _
  have e1 : elemI (eqI T 2) (.int k) (.int k) w = .ok (.bl true) w := elem_t (eqI_int 1 k)
  have e2 : elemI (eqI T 2) (.str s) (.str s) w = .ok (.bl true) w := elem_t (eqI_str 1 h)
  unfold eqIs
  simp only [bind_w, e1, bindK_ok, onBl]
  unfold eqIs
  simp only [bind_w, e2, bindK_ok, onBl]
  rfl
end
section
variable {ρ : Env} {w : Wd}
def retOwnK (s : Option Slot) (w : Wd) : SR := match s with
  | some (.own xs) => .rt (.lst xs) w
  | _ => .bad
theorem retOwn_w (i : Nat) : sRetOwn i ρ w = retOwnK ρ[i]? w := by
  unfold sRetOwn retOwnK
  cases ρ[i]? with
  | none => rfl
  | some s => cases s <;> rfl
theorem retOwnK_v (xs : List D) : retOwnK (some (.own xs)) w = .rt (.lst xs) w := rfl
end
section
variable {w : Wd}
theorem lenT_l (T : PTab) (xs : List D) : lenT T [.lst xs] w = .ok (.int xs.length) w := rfl
theorem lenT_t (T : PTab) (xs : List D) : lenT T [.tup xs] w = .ok (.int xs.length) w := rfl
theorem lenT_o {T : PTab} {k : Nat} {F : List D → M D} {ns : List Str} {xs : List D} {i : Int} (e : findP k T = some F) (h : F [.ins k ns xs] w = .ok (.int i) w) (h0 : 0 ≤ i) (h1 : i < 1000000) : lenT T [.ins k ns xs] w = .ok (.int i) w := by
  unfold lenT
  simp only [e]
  exact lenL_v h h0 h1
theorem propD_o {T : PTab} {k : Nat} {F : List D → M D} {ns : List Str} {xs : List D} {d : D} (e : findP k T = some F) (h : F [.ins k ns xs] w = .ok d w) : propD T (.ins k ns xs) w = .ok d w := by
  unfold propD
  simp only [e]
  unfold noEx
  rw [h]
end
section
variable {ρ : Env} {w : Wd}
def tryMK (r : SR) (hs : List HdF) : SR := match r with
  | .ex c ns xs ρ' w' => pickH hs c ns xs ρ' w'
  | r => r
theorem sTryM_w (b : SF) (hs : List HdF) : sTryM b hs ρ w = tryMK (b ρ w) hs := by
  unfold sTryM tryMK
  cases b ρ w <;> rfl
theorem tryMK_nx (hs : List HdF) : tryMK (.nx ρ w) hs = .nx ρ w := rfl
theorem tryMK_rt (d : D) (hs : List HdF) : tryMK (.rt d w) hs = .rt d w := rfl
theorem tryMK_ex (c : Nat) (ns : List Str) (xs : List D) (hs : List HdF) : tryMK (.ex c ns xs ρ w) hs = pickH hs c ns xs ρ w := rfl
theorem pick_hit {c : Nat} {cs : List Nat} (h : c ∈ cs) (ks : List Nat) (i : Nat) (su : SF) (r : List HdF) (ns : List Str) (xs : List D) : pickH (⟨cs, ks, some i, su⟩ :: r) c ns xs ρ w = suiteK i (su (ρ.set i (.exc c ns xs)) w) := by
  unfold pickH; simp only [if_pos h]
theorem pick_hitN {c : Nat} {cs : List Nat} (h : c ∈ cs) (ks : List Nat) (su : SF) (r : List HdF) (ns : List Str) (xs : List D) : pickH (⟨cs, ks, none, su⟩ :: r) c ns xs ρ w = suiteN (su ρ w) := by
  unfold pickH; simp only [if_pos h]
theorem pick_miss {c : Nat} {cs ks : List Nat} (h : c ∉ cs) (h2 : c ∈ ks) (o : Option Nat) (su : SF) (r : List HdF) (ns : List Str) (xs : List D) : pickH (⟨cs, ks, o, su⟩ :: r) c ns xs ρ w = pickH r c ns xs ρ w := by
  conv => lhs; unfold pickH
  simp only [if_neg h, if_pos h2]
theorem suiteN_nx : suiteN (.nx ρ w) = .nx ρ w := rfl
theorem suiteN_rt (d : D) : suiteN (.rt d w) = .rt d w := rfl
/-- over whole numbers, those with a property -/
theorem rng_filter (P : Nat → Bool) (i : Nat) (t : TF) (e : EF) : ∀ (m n : Nat), (∀ k, n ≤ k → k < n + m → t (ρ.set i (.val (.int (k : Int)))) w = .ok (P k) w) → (∀ k : Nat, e (ρ.set i (.val (.int (k : Int)))) w = .ok (.int (k : Int)) w) → lcL (gN i) t e ρ (rng n m) w = .ok (((List.range' n m).filter P).map fun (k : Nat) => D.int (k : Int)) w
  | 0, n, _, _ => rfl
  | m + 1, n, ht, he => by
    show lcL (gN i) t e ρ (.int (n : Int) :: rng (n + 1) m) w = _
    have ih := rng_filter P i t e m (n + 1) (fun k h1 h2 => ht k (by omega) (by omega)) he
    rw [lcN, ht n (Nat.le_refl _) (by omega), List.range'_succ]
    cases hP : P n with
    | true => rw [lcT_t, he n, lcE_v, ih, bindK_ok, ret_w, List.filter_cons_of_pos hP, List.map_cons]
    | false => rw [lcT_f, ih, List.filter_cons_of_neg (by simp [hP])]
end
/-! no thing twice, by places -/
theorem nodup_at {α : Type} {l : List α} (h : l.Nodup) {i j : Nat} {x : α} (ei : l[i]? = some x) (ej : l[j]? = some x) : i = j := by
  have hi := (List.getElem?_eq_some_iff.mp ei)
  have hj := (List.getElem?_eq_some_iff.mp ej)
  obtain ⟨li, hi⟩ := hi
  obtain ⟨lj, hj⟩ := hj
  have p := List.pairwise_iff_getElem.mp h
  rcases Nat.lt_trichotomy i j with q | q | q
  · exact absurd (hi.trans hj.symm) (p i j li lj q)
  · exact q
  · exact absurd (hj.trans hi.symm) (p j i lj li q)
theorem nodup_of {α : Type} {l : List α} (h : ∀ (i j : Nat) (x : α), l[i]? = some x → l[j]? = some x → i = j) : l.Nodup :=
  List.pairwise_iff_getElem.mpr fun i j hi hj hij e => by
    have := h i j l[i] (List.getElem?_eq_getElem hi) (by rw [List.getElem?_eq_getElem hj, ← e])
    omega
end FL
local macro_rules
  | `(tactic| simp? only [$a,*]) => `(tactic| simp -implicitDefEqProofs only [FL.bind_w, FL.bindK_ok, FL.bindK_ex, FL.ret_w, FL.fail_w, FL.eVar_w, FL.varK_v, FL.eC_w, FL.eUn_w, FL.eBin_w, FL.evs0_w, FL.evs1_w, FL.eTup_w, FL.eLst_w, FL.eCall_w, FL.eIf_w, FL.ifE_t, FL.ifE_f, FL.eAnd_w, FL.andE_t, FL.andE_f, FL.eOr_w, FL.orE_t, FL.orE_f, FL.eNot_w, FL.chainM_w, FL.eChain_w, FL.chainK_t, FL.chainK_f, FL.eNew_w, FL.eHand_w, FL.handK_ok, FL.eXf_w, FL.tVal_w, FL.tTru_w, FL.tNot_w, FL.tYes_w, FL.tAnd_w, FL.tOr_w, FL.andT_t, FL.andT_f, FL.orT_t, FL.orT_f, FL.boolOf_w, FL.truth_bl, FL.truth_int, FL.truth_non, FL.truth_lst, FL.truth_tup, FL.truth_frz, FL.add_int, FL.sub_int, FL.neg_int, FL.lt_int, FL.le_int, FL.gt_int, FL.ge_int, FL.isNon_w, FL.notNon_w, FL.is_w, FL.isNot_w, FL.int_w, FL.abs_w, FL.gcd_w, FL.tup_w, FL.tupt_w, FL.list_w, FL.listl_w, FL.len_lst, FL.len_tup, FL.len_frz, FL.un1_w, FL.bin2_w, FL.eq_int, FL.ne_int, FL.eq_pair, FL.ne_pair, FL.ix_lst, FL.ix_frz, FL.ix_tup, FL.ix_hand, FL.itK_v, FL.item0, FL.item1, FL.item2, FL.item3, FL.isi_int_i, FL.isi_int_b, FL.isi_int_n, FL.isi_int_s, FL.isi_int_t, FL.isi_int_l, FL.isi_int_f, FL.isi_int_h, FL.isi_bool_i, FL.isi_bool_b, FL.isi_bool_n, FL.isi_bool_s, FL.isi_bool_t, FL.isi_bool_l, FL.isi_bool_f, FL.isi_bool_h, FL.isi_str_i, FL.isi_str_b, FL.isi_str_n, FL.isi_str_s, FL.isi_str_t, FL.isi_str_l, FL.isi_str_f, FL.isi_str_h, FL.isi_tuple_i, FL.isi_tuple_b, FL.isi_tuple_n, FL.isi_tuple_s, FL.isi_tuple_t, FL.isi_tuple_l, FL.isi_tuple_f, FL.isi_tuple_h, FL.isi_list_i, FL.isi_list_b, FL.isi_list_n, FL.isi_list_s, FL.isi_list_t, FL.isi_list_l, FL.isi_list_f, FL.isi_list_h, FL.isi_dict_i, FL.isi_dict_b, FL.isi_dict_n, FL.isi_dict_s, FL.isi_dict_t, FL.isi_dict_l, FL.isi_dict_f, FL.isi_dict_h, FL.nLc_w, FL.lcB_ok, FL.lc0, FL.lcN, FL.lcT_t, FL.lcT_f, FL.lcE_v, FL.wipeE0, FL.wipeE1, FL.eJs_w, FL.js0, FL.js1, FL.sSeq_w, FL.seqK_nx, FL.seqK_rt, FL.seqK_bk, FL.seqK_ct, FL.seqK_ex, FL.onK_ok, FL.onK_ex, FL.sNext_w, FL.sSet_w, FL.sOwn_w, FL.sFrz_w, FL.frzK_v, FL.sApp_w, FL.sExpr_w, FL.sRet_w, FL.sRetN_w, FL.sIf_w, FL.ifK_t, FL.ifK_f, FL.sBrk_w, FL.sCnt_w, FL.sPar_w, FL.parK_v, FL.sUnp_w, FL.unpK_2, FL.unpK_3, FL.unpK_4, FL.sHSet_w, FL.hsK_0, FL.hsK_1, FL.hsK_2, FL.hsK_3, FL.sRaise_w, FL.sFor_w, FL.iSeq_w, FL.seqOf_lst, FL.seqOf_tup, FL.seqOf_frz, FL.iRng_w, FL.loopK_nx, FL.loopK_ct, FL.loopK_bk, FL.loopK_rt, FL.for0, FL.forN, FL.loopF_nx, FL.loopF_ct, FL.loopF_bk, FL.loopF_rt, FL.loopF_ex, FL.sWhile_w, FL.sTry_w, FL.tryK_nx, FL.tryK_rt, FL.suiteK_nx, FL.suiteK_rt, FL.wipe0, FL.wipe_v, FL.wipe_n, FL.wipe_o, FL.call_w, FL.callK_nx, FL.callK_rt, FL.callK_ex, FL.vals0, FL.vals1, FL.iEnum_w, FL.forT2, FL.forT3, FL.sl_hi, FL.sl_lo, FL.sMut_w, FL.sMK_v, FL.isi_lt_i, FL.isi_lt_b, FL.isi_lt_n, FL.isi_lt_s, FL.isi_lt_t, FL.isi_lt_l, FL.isi_lt_f, FL.eMake_w, FL.ne_bl, FL.eq_bl, FL.item4, FL.item5, FL.item6, FL.item7, FL.sUnpL_w, FL.unpL_2, FL.unpL_3, FL.unpL_6, FL.eBor_w, FL.tBor_w, FL.borT_v, FL.borE_n, FL.borE_c, FL.borS_n, FL.borS_h, FL.varK_nest, FL.init_w, FL.iniK_nx, FL.iniK_ex, FL.slfK_v, FL.eOwnIx_w, FL.ownK_v, FL.ixL_w, FL.sItem_w, FL.itmK_v, FL.sPutT_w, FL.ptTK_v, FL.sPut2_w, FL.p2KK_v, FL.sNest_w, FL.tIfE_w, FL.eOrT_w, FL.wipT_n, FL.wipT_c, FL.wipS_none, FL.wipS_o, FL.c_len, FL.c_len0, FL.c_rep, FL.c_rep0, FL.c_app, FL.c_app0, FL.c_get0, FL.c_get1, FL.c_set0, FL.c_set1, FL.c_zadd, FL.c_nt, FL.c_nf, FL.c_aa, FL.c_at, FL.c_af, FL.c_ta, FL.c_fa, FL.c_ott, FL.c_off, FL.c_beq, FL.c_bne, FL.c_dt, FL.c_df, FL.nh_i, FL.nh_b, FL.nh_s, FL.nh_n, FL.nh_t, FL.nh_l, FL.nh_o, FL.nh_0, FL.nh_c, FL.nl_i, FL.nl_b, FL.nl_s, FL.nl_n, FL.nl_t, FL.nl_o, FL.nl_0, FL.nl_c, FL.non_n, FL.non_i, FL.non_b, FL.non_s, FL.non_t, FL.non_l, FL.non_o, FL.borS_vv, FL.borS_oo, FL.borK_vv, FL.nList_w, FL.items_t, FL.items_l, FL.noT_l, FL.noT_t, FL.noT_o, FL.noT_i, FL.noT_b, FL.noT_s, FL.noT_n, FL.noT_h, FL.noT_0, FL.noT_c, FL.c_ft, FL.c_it, FL.c_if, FL.retOwn_w, FL.retOwnK_v, FL.lenT_l, FL.lenT_t, FL.sTryM_w, FL.tryMK_nx, FL.tryMK_rt, FL.tryMK_ex, FL.suiteN_nx, FL.suiteN_rt, $a,*])
local macro_rules
  | `(tactic| simp? only [$a,*] $l:location) => `(tactic| simp -implicitDefEqProofs only [FL.bind_w, FL.bindK_ok, FL.bindK_ex, FL.ret_w, FL.fail_w, FL.eVar_w, FL.varK_v, FL.eC_w, FL.eUn_w, FL.eBin_w, FL.evs0_w, FL.evs1_w, FL.eTup_w, FL.eLst_w, FL.eCall_w, FL.eIf_w, FL.ifE_t, FL.ifE_f, FL.eAnd_w, FL.andE_t, FL.andE_f, FL.eOr_w, FL.orE_t, FL.orE_f, FL.eNot_w, FL.chainM_w, FL.eChain_w, FL.chainK_t, FL.chainK_f, FL.eNew_w, FL.eHand_w, FL.handK_ok, FL.eXf_w, FL.tVal_w, FL.tTru_w, FL.tNot_w, FL.tYes_w, FL.tAnd_w, FL.tOr_w, FL.andT_t, FL.andT_f, FL.orT_t, FL.orT_f, FL.boolOf_w, FL.truth_bl, FL.truth_int, FL.truth_non, FL.truth_lst, FL.truth_tup, FL.truth_frz, FL.add_int, FL.sub_int, FL.neg_int, FL.lt_int, FL.le_int, FL.gt_int, FL.ge_int, FL.isNon_w, FL.notNon_w, FL.is_w, FL.isNot_w, FL.int_w, FL.abs_w, FL.gcd_w, FL.tup_w, FL.tupt_w, FL.list_w, FL.listl_w, FL.len_lst, FL.len_tup, FL.len_frz, FL.un1_w, FL.bin2_w, FL.eq_int, FL.ne_int, FL.eq_pair, FL.ne_pair, FL.ix_lst, FL.ix_frz, FL.ix_tup, FL.ix_hand, FL.itK_v, FL.item0, FL.item1, FL.item2, FL.item3, FL.isi_int_i, FL.isi_int_b, FL.isi_int_n, FL.isi_int_s, FL.isi_int_t, FL.isi_int_l, FL.isi_int_f, FL.isi_int_h, FL.isi_bool_i, FL.isi_bool_b, FL.isi_bool_n, FL.isi_bool_s, FL.isi_bool_t, FL.isi_bool_l, FL.isi_bool_f, FL.isi_bool_h, FL.isi_str_i, FL.isi_str_b, FL.isi_str_n, FL.isi_str_s, FL.isi_str_t, FL.isi_str_l, FL.isi_str_f, FL.isi_str_h, FL.isi_tuple_i, FL.isi_tuple_b, FL.isi_tuple_n, FL.isi_tuple_s, FL.isi_tuple_t, FL.isi_tuple_l, FL.isi_tuple_f, FL.isi_tuple_h, FL.isi_list_i, FL.isi_list_b, FL.isi_list_n, FL.isi_list_s, FL.isi_list_t, FL.isi_list_l, FL.isi_list_f, FL.isi_list_h, FL.isi_dict_i, FL.isi_dict_b, FL.isi_dict_n, FL.isi_dict_s, FL.isi_dict_t, FL.isi_dict_l, FL.isi_dict_f, FL.isi_dict_h, FL.nLc_w, FL.lcB_ok, FL.lc0, FL.lcN, FL.lcT_t, FL.lcT_f, FL.lcE_v, FL.wipeE0, FL.wipeE1, FL.eJs_w, FL.js0, FL.js1, FL.sSeq_w, FL.seqK_nx, FL.seqK_rt, FL.seqK_bk, FL.seqK_ct, FL.seqK_ex, FL.onK_ok, FL.onK_ex, FL.sNext_w, FL.sSet_w, FL.sOwn_w, FL.sFrz_w, FL.frzK_v, FL.sApp_w, FL.sExpr_w, FL.sRet_w, FL.sRetN_w, FL.sIf_w, FL.ifK_t, FL.ifK_f, FL.sBrk_w, FL.sCnt_w, FL.sPar_w, FL.parK_v, FL.sUnp_w, FL.unpK_2, FL.unpK_3, FL.unpK_4, FL.sHSet_w, FL.hsK_0, FL.hsK_1, FL.hsK_2, FL.hsK_3, FL.sRaise_w, FL.sFor_w, FL.iSeq_w, FL.seqOf_lst, FL.seqOf_tup, FL.seqOf_frz, FL.iRng_w, FL.loopK_nx, FL.loopK_ct, FL.loopK_bk, FL.loopK_rt, FL.for0, FL.forN, FL.loopF_nx, FL.loopF_ct, FL.loopF_bk, FL.loopF_rt, FL.loopF_ex, FL.sWhile_w, FL.sTry_w, FL.tryK_nx, FL.tryK_rt, FL.suiteK_nx, FL.suiteK_rt, FL.wipe0, FL.wipe_v, FL.wipe_n, FL.wipe_o, FL.call_w, FL.callK_nx, FL.callK_rt, FL.callK_ex, FL.vals0, FL.vals1, FL.iEnum_w, FL.forT2, FL.forT3, FL.sl_hi, FL.sl_lo, FL.sMut_w, FL.sMK_v, FL.isi_lt_i, FL.isi_lt_b, FL.isi_lt_n, FL.isi_lt_s, FL.isi_lt_t, FL.isi_lt_l, FL.isi_lt_f, FL.eMake_w, FL.ne_bl, FL.eq_bl, FL.item4, FL.item5, FL.item6, FL.item7, FL.sUnpL_w, FL.unpL_2, FL.unpL_3, FL.unpL_6, FL.eBor_w, FL.tBor_w, FL.borT_v, FL.borE_n, FL.borE_c, FL.borS_n, FL.borS_h, FL.varK_nest, FL.init_w, FL.iniK_nx, FL.iniK_ex, FL.slfK_v, FL.eOwnIx_w, FL.ownK_v, FL.ixL_w, FL.sItem_w, FL.itmK_v, FL.sPutT_w, FL.ptTK_v, FL.sPut2_w, FL.p2KK_v, FL.sNest_w, FL.tIfE_w, FL.eOrT_w, FL.wipT_n, FL.wipT_c, FL.wipS_none, FL.wipS_o, FL.c_len, FL.c_len0, FL.c_rep, FL.c_rep0, FL.c_app, FL.c_app0, FL.c_get0, FL.c_get1, FL.c_set0, FL.c_set1, FL.c_zadd, FL.c_nt, FL.c_nf, FL.c_aa, FL.c_at, FL.c_af, FL.c_ta, FL.c_fa, FL.c_ott, FL.c_off, FL.c_beq, FL.c_bne, FL.c_dt, FL.c_df, FL.nh_i, FL.nh_b, FL.nh_s, FL.nh_n, FL.nh_t, FL.nh_l, FL.nh_o, FL.nh_0, FL.nh_c, FL.nl_i, FL.nl_b, FL.nl_s, FL.nl_n, FL.nl_t, FL.nl_o, FL.nl_0, FL.nl_c, FL.non_n, FL.non_i, FL.non_b, FL.non_s, FL.non_t, FL.non_l, FL.non_o, FL.borS_vv, FL.borS_oo, FL.borK_vv, FL.nList_w, FL.items_t, FL.items_l, FL.noT_l, FL.noT_t, FL.noT_o, FL.noT_i, FL.noT_b, FL.noT_s, FL.noT_n, FL.noT_h, FL.noT_0, FL.noT_c, FL.c_ft, FL.c_it, FL.c_if, FL.retOwn_w, FL.retOwnK_v, FL.lenT_l, FL.lenT_t, FL.sTryM_w, FL.tryMK_nx, FL.tryMK_rt, FL.tryMK_ex, FL.suiteN_nx, FL.suiteN_rt, $a,*] $l)

namespace K02
open PySem FL
variable {w : Wd}
theorem fmod_bd {x m : Int} (h : 0 < m) : 0 ≤ x.fmod m ∧ x.fmod m < m := ⟨Int.fmod_nonneg_of_pos x h, Int.fmod_lt_of_pos x h⟩
theorem sz_of {k : Nat} {i : Int} (h0 : 0 ≤ i) (h : i < 2 ^ k) : Sz k i := by
  unfold Sz
  have e : ((2 ^ k : Nat) : Int) = 2 ^ k := by norm_cast
  omega
theorem fmod_sz {x m : Int} (h : 0 < m) (hm : m ≤ 2 ^ 31) : Sz 31 (x.fmod m) := sz_of (fmod_bd h).1 (Int.lt_of_lt_of_le (fmod_bd h).2 hm)
theorem mixed_w {a b : Int} (ha : Sz 40 a) (hb : Sz 40 b) : ∃ m, F__law_mixed [.int a, .int b] w = .ok (.int m) w := by
  have s1 : Sz 20 69621 := by unfold Sz; decide
  have s2 : Sz 20 7907 := by unfold Sz; decide
  have s3 : Sz 20 104723 := by unfold Sz; decide
  have s4 : Sz 20 48271 := by unfold Sz; decide
  have s5 : Sz 20 131 := by unfold Sz; decide
  have s6 : Sz 20 7 := by unfold Sz; decide
  have s7 : Sz 20 32 := by unfold Sz; decide
  have o : Sz 31 ((a * 69621 + b * 7907 + 40503).fmod 2147483647) := fmod_sz (by decide) (by decide)
  have t : Sz 31 (((a * 69621 + b * 7907 + 40503).fmod 2147483647 * (a * 69621 + b * 7907 + 40503).fmod 2147483647 + b * 104723 + ((a * 69621 + b * 7907 + 40503).fmod 2147483647).fdiv 131).fmod 2147483629) := fmod_sz (by decide) (by decide)
  unfold F__law_mixed
  simp? only [Nat.reduceSub, Nat.reduceAdd, mul_int ha s1, mul_int hb s2, mod_int (show (2147483647 : Int) ≠ 0 by decide), mul_int o o, mul_int hb s3, fdiv_int (show (131 : Int) ≠ 0 by decide) s5, mod_int (show (2147483629 : Int) ≠ 0 by decide), mul_int t s4, fdiv_int (show (7 : Int) ≠ 0 by decide) s6, mod_int (show (2147483579 : Int) ≠ 0 by decide), fdiv_int (show (32 : Int) ≠ 0 by decide) s7]
  exact ⟨_, rfl⟩
/-! ### the hand -/
def HandI (w : Wd) : Prop := ∃ (cs : List Int) (i rest total : Int), w = some [.lst (cs.map D.int), .int i, .int rest, .int total] ∧ (∀ c ∈ cs, 0 ≤ c) ∧ cs.length ≤ 63 ∧ 0 ≤ i ∧ i ≤ 63 ∧ 0 ≤ rest ∧ 0 ≤ total ∧ total < 2147483587
theorem sz40 {i : Int} (h0 : 0 ≤ i) (h : i < 2147483648) : Sz 40 i := sz_of h0 (by omega)
theorem take_w {many : Int} {k : Nat} (hi : HandI w) (hm : 0 < many) (hk : Sz k many) (hk9 : k < 9000) : ∃ v w', F__law_take [.hand, .int many] w = .ok (.int v) w' ∧ 0 ≤ v ∧ v < many ∧ HandI w' := by
  obtain ⟨cs, i, rest, total, rfl, hc, hl, hi0, hi6, hr, ht0, ht⟩ := hi
  have pw : ∀ w : Wd, powD (.int 10) (.int 18) w = .ok (.int 1000000000000000000) w := fun w => by rw [pow_int (by decide)]; rfl
  have m0 : many ≠ 0 := by omega
  have bd : ∀ x : Int, 0 ≤ x.fmod many ∧ x.fmod many < many := fun x => fmod_bd hm
  unfold F__law_take
  -- the last way
  have last : ∀ ρ : FL.Env, ∀ j : Int, 0 ≤ j → j ≤ 63 → ρ[0]? = some (.val .hand) → ρ[1]? = some (.val (.int many)) → ∃ v w', callK (sSeq (sHSet (eVar 0) (eC (.int 3)) (eBin modD (eCall (un1 intD) [(eBin addD (eBin ixD (eVar 0) (eC (.int 3))) (eC (.int 1)))]) (eC (.int 2147483587)))) (sRet (eBin modD (eCall (un1 intD) [(eCall F__law_mixed [(eBin ixD (eVar 0) (eC (.int 3))), (eBin ixD (eVar 0) (eC (.int 1)))])]) (eVar 1))) ρ (some [.lst (cs.map D.int), .int j, .int 0, .int total])) = .ok (.int v) w' ∧ 0 ≤ v ∧ v < many ∧ HandI w' := by
    intro ρ j hj0 hj6 e0 e1
    obtain ⟨m, em⟩ := mixed_w (a := (total + 1).fmod 2147483587) (b := j) (w := some [.lst (cs.map D.int), .int j, .int 0, .int ((total + 1).fmod 2147483587)]) ((fmod_sz (by decide) (by decide)).mono (by decide)) (sz40 hj0 (by omega))
    simp? only [Nat.reduceSub, Nat.reduceAdd, e0, e1, mod_int (show (2147483587 : Int) ≠ 0 by decide), em, mod_int m0]
    exact ⟨_, _, rfl, (bd m).1, (bd m).2, cs, j, 0, _, rfl, hc, hl, hj0, hj6, by decide, (fmod_bd (by decide)).1, (fmod_bd (by decide)).2⟩
  by_cases h2 : rest = 0
  · subst h2
    by_cases h1 : i < cs.length
    · obtain ⟨c, ec⟩ : ∃ c, cs[i.toNat]? = some c := ⟨_, List.getElem?_eq_getElem (by omega)⟩
      have hc0 : 0 ≤ c := hc c (List.mem_of_getElem? ec)
      have eit : itemAt (cs.map D.int) i = some (.int c) := item_nat hi0 (by rw [List.getElem?_map, ec]; rfl)
      by_cases h18 : c < 1000000000000000000
      · obtain ⟨m, em⟩ := mixed_w (a := c.fmod 2147483647) (b := i + 1) (w := some [.lst (cs.map D.int), .int (i + 1), .int 0, .int total]) ((fmod_sz (by decide) (by decide)).mono (by decide)) (sz40 (by omega) (by omega))
        simp? only [Nat.reduceSub, Nat.reduceAdd, pw, eit, List.length_map, h1, h18, decide_true, beq_self_eq_true, mod_int (show (2147483647 : Int) ≠ 0 by decide), em, mod_int m0]
        exact ⟨_, _, rfl, (bd m).1, (bd m).2, cs, i + 1, 0, total, rfl, hc, hl, by omega, by omega, by decide, ht0, ht⟩
      · have hp : 0 < c := by omega
        simp? only [Nat.reduceSub, Nat.reduceAdd, pw, eit, List.length_map, h1, h18, hp, decide_true, decide_false, beq_self_eq_true, fdiv_int m0 hk hk9, mod_int m0]
        exact ⟨_, _, rfl, (bd c).1, (bd c).2, cs, i + 1, _, total, rfl, hc, hl, by omega, by omega, Int.fdiv_nonneg (by omega) (by omega), ht0, ht⟩
    · simp? only [Nat.reduceSub, Nat.reduceAdd, List.length_map, h1, Int.lt_irrefl, decide_true, decide_false, beq_self_eq_true]
      have := last [.val .hand, .val (.int many), .none, .none] i hi0 hi6 rfl rfl
      simp? only [Nat.reduceSub, Nat.reduceAdd] at this
      exact this
  · have hp : 0 < rest := by omega
    have hb : (rest == 0) = false := by simpa using h2
    simp? only [Nat.reduceSub, Nat.reduceAdd, hb, hp, decide_true, fdiv_int m0 hk hk9, mod_int m0]
    exact ⟨_, _, rfl, (bd rest).1, (bd rest).2, cs, i, _, total, rfl, hc, hl, hi0, hi6, Int.fdiv_nonneg (by omega) (by omega), ht0, ht⟩
theorem handL : ∀ (ns cs : List Int) (sc : Slot) (t : Int) (s3 : Slot), (∀ c ∈ cs, 0 ≤ c) → cs.length + ns.length ≤ 63 → 0 ≤ t → t < 2147483587 → ∃ (cs' : List Int) (t' : Int) (s3' : Slot), forL (gN 3) B__law_hand_0 (ns.map D.int) [sc, .val (.int t), .own (cs.map D.int), s3] w = .nx [sc, .val (.int t'), .own (cs'.map D.int), s3'] w ∧ (∀ c ∈ cs', 0 ≤ c) ∧ cs'.length ≤ 63 ∧ 0 ≤ t' ∧ t' < 2147483587
  | [], cs, sc, t, s3, hc, hl, h0, h1 => ⟨cs, t, s3, rfl, hc, by simpa using hl, h0, h1⟩
  | n :: ns, cs, sc, t, s3, hc, hl, h0, h1 => by
    have st : Sz 40 t := sz40 h0 (by omega)
    have s2 : Sz 20 1021 := by unfold Sz; decide
    have e : (cs.map D.int) ++ [D.int (if n < 0 then -n else n)] = (cs ++ [if n < 0 then -n else n]).map D.int := by simp
    have hl' : (cs.map D.int).length < line := by rw [List.length_map]; unfold line; simp only [List.length_cons] at hl; omega
    obtain ⟨cs', t', s3', e1, e2, e3, e4, e5⟩ := handL ns (cs ++ [if n < 0 then -n else n]) sc ((t * 1021 + n).fmod 2147483587) (.val (.int n)) (fun c hm => by
      rcases List.mem_append.mp hm with hm | hm
      · exact hc c hm
      · rw [List.mem_singleton.mp hm]; split <;> omega) (by simp only [List.length_append, List.length_cons, List.length_nil] at hl ⊢; omega) (fmod_bd (by decide)).1 (fmod_bd (by decide)).2
    refine ⟨cs', t', s3', ?_, e2, e3, e4, e5⟩
    rw [List.map_cons]
    simp? only [Nat.reduceSub, Nat.reduceAdd, B__law_hand_0_w, mul_int st s2, mod_int (show (2147483587 : Int) ≠ 0 by decide), appK_v 2 _ hl', e, e1]
theorem hand_w (ns : List Int) (hl : ns.length ≤ 63) : ∃ w', F__law_hand [.frz (ns.map D.int)] none = .ok .hand w' ∧ HandI w' := by
  obtain ⟨cs', t', s3', e1, e2, e3, e4, e5⟩ := handL (w := none) ns [] (.val (.frz (ns.map D.int))) ((ns.length : Int) + 53) .none (fun c h => by cases h) (by simpa using hl) (by omega) (by omega)
  unfold F__law_hand
  simp? only [Nat.reduceSub, Nat.reduceAdd, List.length_map, List.map_nil]
  rw [List.map_nil] at e1
  rw [e1]
  simp? only [Nat.reduceSub, Nat.reduceAdd]
  exact ⟨_, rfl, cs', 0, 0, t', rfl, e2, e3, by decide, by decide, by decide, e4, e5⟩
theorem gcdL : ∀ (n a b : Nat), b < n → whileL (tTru (eVar 1)) B__law_gcd_0 n [.val (.int a), .val (.int b)] w = .nx [.val (.int (Nat.gcd a b : Nat)), .val (.int 0)] w
  | 0, _, _, h => by omega
  | n + 1, a, b, h => by
    rw [while_w]
    by_cases hb : b = 0
    · subst hb
      have e : (((0 : Nat) : Int) != 0) = false := by decide
      simp? only [Nat.reduceSub, Nat.reduceAdd, e, whK_f]
      rw [Nat.gcd_zero_right]
      all_goals rfl
    · have e : (((b : Nat) : Int) != 0) = true := by simp [hb]
      have hb' : ((b : Nat) : Int) ≠ 0 := by omega
      simp? only [Nat.reduceSub, Nat.reduceAdd, e, whK_t, B__law_gcd_0_w, mod_int hb', show ((a : Int)).fmod (b : Int) = ((a % b : Nat) : Int) from by rw [Int.fmod_eq_emod_of_nonneg _ (by omega)]; rfl]
      rw [gcdL n b (a % b) (by have := Nat.mod_lt a (Nat.pos_of_ne_zero hb); omega)]
      rw [Nat.gcd_comm b, ← Nat.gcd_rec, Nat.gcd_comm]
theorem lgcd_w (a b : Int) : F__law_gcd [.int a, .int b] w = .ok (.int (Nat.gcd a.natAbs b.natAbs : Nat)) w := by
  have e : ∀ i : Int, (if i < 0 then -i else i) = ((i.natAbs : Nat) : Int) := fun i => by split <;> omega
  unfold F__law_gcd
  simp? only [Nat.reduceSub, Nat.reduceAdd, e, fuel__law_gcd, Int.natAbs_natCast]
  rw [gcdL _ _ _ (Nat.lt_succ_self _)]
  simp? only [Nat.reduceSub, Nat.reduceAdd]
theorem ratio_q {a b : Int} {k : Nat} (hb0 : b ≠ 0) (hb : Sz k b) (hk : k < 9000) : F__law_ratio [.int a, .int b] w = .ok (rq (Rat.divInt a b)) w := by
  have g0 := gcd_ne (a := a) hb0
  have gs := gcd_sz (a := a) hb0 hb
  rw [← rq_low hb0]
  unfold F__law_ratio lowA lowB
  by_cases h : b < 0
  · simp? only [Nat.reduceSub, Nat.reduceAdd, lgcd_w, h, decide_true, if_true, fdiv_int (show -((Nat.gcd a.natAbs b.natAbs : Nat) : Int) ≠ 0 by omega) gs.neg hk]
    have e : ∀ x y : Int, x.fdiv (-y) = (-x).fdiv y := fun x y => by
      have := Int.neg_fdiv_neg (-x) y
      rw [Int.neg_neg] at this
      exact this
    rw [e, e]
  · simp? only [Nat.reduceSub, Nat.reduceAdd, lgcd_w, h, decide_false, if_false, fdiv_int g0 gs hk]
theorem lplus_q {x y : Rat} {k l : Nat} (hx : SzQ k x) (hy : SzQ l y) (hk : k + l < 9000) : F__law_plus [rq x, rq y] w = .ok (rq (x + y)) w := by
  unfold F__law_plus
  simp? only [Nat.reduceSub, Nat.reduceAdd, mul_int hx.1 hy.2 (by omega), mul_int hy.1 hx.2 (by omega), mul_int hx.2 hy.2 (by omega), ratio_q (den_mul0 x y) (hx.2.mul hy.2) hk, add_q]
theorem lminus_q {x y : Rat} {k l : Nat} (hx : SzQ k x) (hy : SzQ l y) (hk : k + l < 9000) : F__law_minus [rq x, rq y] w = .ok (rq (x - y)) w := by
  unfold F__law_minus
  simp? only [Nat.reduceSub, Nat.reduceAdd, mul_int hx.1 hy.2 (by omega), mul_int hy.1 hx.2 (by omega), mul_int hx.2 hy.2 (by omega), ratio_q (den_mul0 x y) (hx.2.mul hy.2) hk, sub_q]
theorem ltimes_q {x y : Rat} {k l : Nat} (hx : SzQ k x) (hy : SzQ l y) (hk : k + l < 9000) : F__law_times [rq x, rq y] w = .ok (rq (x * y)) w := by
  unfold F__law_times
  simp? only [Nat.reduceSub, Nat.reduceAdd, mul_int hx.1 hy.1 (by omega), mul_int hx.2 hy.2 (by omega), ratio_q (den_mul0 x y) (hx.2.mul hy.2) hk, mul_q]
theorem whole_i (i : Int) : F_is_whole [.int i, .non, .non] w = .ok (.bl true) w := by
  unfold F_is_whole
  simp? only [Nat.reduceSub, Nat.reduceAdd, D.isNon]
theorem whole_l (i l : Int) : F_is_whole [.int i, .int l, .non] w = .ok (.bl (decide (l ≤ i))) w := by
  unfold F_is_whole
  by_cases h : i < l
  · simp? only [Nat.reduceSub, Nat.reduceAdd, D.isNon, h, decide_true, show ¬ l ≤ i by omega, decide_false]
  · simp? only [Nat.reduceSub, Nat.reduceAdd, D.isNon, h, decide_false, show l ≤ i by omega, decide_true]
theorem whole_h (i u : Int) : F_is_whole [.int i, .non, .int u] w = .ok (.bl (decide (i ≤ u))) w := by
  unfold F_is_whole
  simp? only [Nat.reduceSub, Nat.reduceAdd, D.isNon]
theorem whole_lh (i l u : Int) : F_is_whole [.int i, .int l, .int u] w = .ok (.bl (decide (l ≤ i ∧ i ≤ u))) w := by
  unfold F_is_whole
  by_cases h : i < l
  · simp? only [Nat.reduceSub, Nat.reduceAdd, D.isNon, h, decide_true, show ¬ l ≤ i by omega, false_and, decide_false]
  · simp? only [Nat.reduceSub, Nat.reduceAdd, D.isNon, h, decide_false, show l ≤ i by omega, true_and]
theorem whole_b (b : Bool) (x y : D) : F_is_whole [.bl b, x, y] w = .ok (.bl false) w := by
  unfold F_is_whole
  simp? only [Nat.reduceSub, Nat.reduceAdd]
theorem whole_n (x y : D) : F_is_whole [.non, x, y] w = .ok (.bl false) w := by
  unfold F_is_whole
  simp? only [Nat.reduceSub, Nat.reduceAdd]
theorem whole_s (s : Str) (x y : D) : F_is_whole [.str s, x, y] w = .ok (.bl false) w := by
  unfold F_is_whole
  simp? only [Nat.reduceSub, Nat.reduceAdd]
theorem whole_t (s : List D) (x y : D) : F_is_whole [.tup s, x, y] w = .ok (.bl false) w := by
  unfold F_is_whole
  simp? only [Nat.reduceSub, Nat.reduceAdd]
theorem whole_L (s : List D) (x y : D) : F_is_whole [.lst s, x, y] w = .ok (.bl false) w := by
  unfold F_is_whole
  simp? only [Nat.reduceSub, Nat.reduceAdd]
theorem isr_2 (a b : Int) : F_is_ratio [.tup [.int a, .int b]] w = .ok (.bl (decide (1 ≤ b) && ((Nat.gcd a.natAbs b.natAbs : Nat) : Int) == 1)) w := by
  unfold F_is_ratio
  by_cases h : 1 ≤ b
  · simp? only [Nat.reduceSub, Nat.reduceAdd, whole_i, whole_l, h, decide_true, Int.cast_ofNat_Int, beq_self_eq_true, Bool.true_and]
  · simp? only [Nat.reduceSub, Nat.reduceAdd, whole_i, whole_l, h, decide_false, Int.cast_ofNat_Int, beq_self_eq_true, Bool.false_and]
theorem isr_q (q : Rat) : F_is_ratio [rq q] w = .ok (.bl true) w := by
  have := q.den_nz
  rw [isr_2, decide_eq_true (show 1 ≤ (q.den : Int) by omega), Int.natAbs_natCast, q.reduced]
  rfl
theorem small_t {q : Rat} (h : Sm q) : F_is_small [rq q] w = .ok (.bl true) w := by
  unfold F_is_small
  simp? only [Nat.reduceSub, Nat.reduceAdd, isr_q, h.1, h.2.1, h.2.2, decide_true]
theorem lowest_q {a b : Int} {k : Nat} (hb0 : b ≠ 0) (hb : Sz k b) (hk : k < 9000) : F__lowest [.int a, .int b] w = .ok (rq (Rat.divInt a b)) w := by
  have g0 := gcd_ne (a := a) hb0
  have gs := gcd_sz (a := a) hb0 hb
  rw [← rq_low hb0]
  unfold F__lowest lowA lowB
  by_cases h : b < 0
  · simp? only [Nat.reduceSub, Nat.reduceAdd, h, if_true, Int.natAbs_neg, fdiv_int g0 gs hk]
  · simp? only [Nat.reduceSub, Nat.reduceAdd, h, if_false, fdiv_int g0 gs hk]
theorem times_q {x y : Rat} {k l : Nat} (hx : SzQ k x) (hy : SzQ l y) (hk : k + l < 9000) : F_times [rq x, rq y] w = .ok (rq (x * y)) w := by
  unfold F_times
  simp? only [Nat.reduceSub, Nat.reduceAdd, mul_int hx.1 hy.1 (by omega), mul_int hx.2 hy.2 (by omega), lowest_q (den_mul0 x y) (hx.2.mul hy.2) hk, mul_q]
theorem plus_q {x y : Rat} {k l : Nat} (hx : SzQ k x) (hy : SzQ l y) (hk : k + l < 9000) : F_plus [rq x, rq y] w = .ok (rq (x + y)) w := by
  unfold F_plus
  simp? only [Nat.reduceSub, Nat.reduceAdd, mul_int hx.1 hy.2 (by omega), mul_int hy.1 hx.2 (by omega), mul_int hx.2 hy.2 (by omega), lowest_q (den_mul0 x y) (hx.2.mul hy.2) hk, add_q]
theorem minus_q {x y : Rat} {k l : Nat} (hx : SzQ k x) (hy : SzQ l y) (hk : k + l < 9000) : F_minus [rq x, rq y] w = .ok (rq (x - y)) w := by
  unfold F_minus
  simp? only [Nat.reduceSub, Nat.reduceAdd, mul_int hx.1 hy.2 (by omega), mul_int hy.1 hx.2 (by omega), mul_int hx.2 hy.2 (by omega), lowest_q (den_mul0 x y) (hx.2.mul hy.2) hk, sub_q]
end K02

namespace K02
open PySem FL
variable {w : Wd}
theorem divInt_pos {a b : Int} (ha : 0 < a) (hb : 0 < b) : 0 < (Rat.divInt a b).num := by
  have h0 : 0 ≤ (Rat.divInt a b).num := divInt_nonneg (by omega) hb
  rcases Int.lt_or_eq_of_le h0 with h | h
  · exact h
  · exfalso
    have e : Rat.divInt a b = Rat.divInt (Rat.divInt a b).num (Rat.divInt a b).den := (Rat.num_divInt_den _).symm
    rw [← h] at e
    rw [Rat.divInt_eq_divInt_iff (by omega) (den0 _)] at e
    rw [Int.zero_mul] at e
    rcases Int.mul_eq_zero.mp e with z | z
    · omega
    · exact den0 _ z
def Arm (q : Rat) : Prop := Sm q ∧ 0 < q.num
theorem arm_div {a b : Int} (ha : 1 ≤ a ∧ a ≤ 1000000000000) (hb : 1 ≤ b ∧ b ≤ 1000000000000) : Arm (Rat.divInt a b) := ⟨sm_div (by omega) (by omega) (by omega), divInt_pos (by omega) (by omega)⟩
theorem sz_b {b : Int} (hb : -1000000000000 ≤ b ∧ b ≤ 1000000000000) : Sz 40 b := by
  unfold Sz
  have : (2 ^ 40 : Nat) = 1099511627776 := by decide
  omega
theorem bounded_w (hi : HandI w) : ∃ b w', F__law_bounded [.hand] w = .ok (.int b) w' ∧ 1 ≤ b ∧ b ≤ 1000000000000 ∧ HandI w' := by
  have p6 : ∀ w : Wd, powD (.int 10) (.int 6) w = .ok (.int 1000000) w := fun w => by rw [pow_int (by decide)]; rfl
  have p12 : ∀ w : Wd, powD (.int 10) (.int 12) w = .ok (.int 1000000000000) w := fun w => by rw [pow_int (by decide)]; rfl
  have s6 : Sz 20 1000000 := by unfold Sz; decide
  obtain ⟨k, w1, e1, k0, k9, h1⟩ := take_w (many := 8) (k := 4) hi (by decide) (by unfold Sz; decide) (by decide)
  unfold F__law_bounded
  by_cases hk : k < 6
  · obtain ⟨v, w2, e2, v0, v9, h2⟩ := take_w (many := 4) (k := 3) h1 (by decide) (by unfold Sz; decide) (by decide)
    simp? only [Nat.reduceSub, Nat.reduceAdd, e1, hk, decide_true, e2]
    exact ⟨_, _, rfl, by omega, by omega, h2⟩
  · by_cases h6 : k = 6
    · subst h6
      simp? only [Nat.reduceSub, Nat.reduceAdd, e1, hk, decide_false, beq_self_eq_true, p12]
      exact ⟨_, _, rfl, by omega, by omega, h1⟩
    · obtain ⟨u, w2, e2, u0, u9, h2⟩ := take_w (many := 1000000) (k := 20) h1 (by decide) s6 (by decide)
      obtain ⟨v, w3, e3, v0, v9, h3⟩ := take_w (many := 1000000) (k := 20) h2 (by decide) s6 (by decide)
      have hb : (k == 6) = false := by simpa using h6
      have su : Sz 20 u := sz_of u0 (by omega)
      simp? only [Nat.reduceSub, Nat.reduceAdd, e1, hk, decide_false, hb, p6, e2, mul_int su s6, e3]
      exact ⟨_, _, rfl, by omega, by omega, h3⟩
theorem arm_w (hi : HandI w) : ∃ q w', F__law_arm [.hand] w = .ok (rq q) w' ∧ Arm q ∧ HandI w' := by
  obtain ⟨k, w1, e1, k0, k9, h1⟩ := take_w (many := 4) (k := 3) hi (by decide) (by unfold Sz; decide) (by decide)
  unfold F__law_arm
  by_cases hk : k = 0
  · subst hk
    obtain ⟨a, w2, e2, a0, a9, h2⟩ := bounded_w h1
    obtain ⟨b, w3, e3, b0, b9, h3⟩ := bounded_w h2
    simp? only [Nat.reduceSub, Nat.reduceAdd, e1, show ((0 : Int) != 0) = false from rfl, e2, e3, ratio_q (a := a) (show b ≠ 0 by omega) (sz_b (by omega)) (by decide)]
    exact ⟨_, _, rfl, arm_div (by omega) (by omega), h3⟩
  · have hb : (k != 0) = true := by simpa using hk
    obtain ⟨a, w2, e2, a0, a9, h2⟩ := take_w (many := 4) (k := 3) h1 (by decide) (by unfold Sz; decide) (by decide)
    obtain ⟨b, w3, e3, b0, b9, h3⟩ := take_w (many := 3) (k := 2) h2 (by decide) (by unfold Sz; decide) (by decide)
    simp? only [Nat.reduceSub, Nat.reduceAdd, e1, hb, e2, e3, ratio_q (a := 1 + a) (show 1 + b ≠ 0 by omega) (sz_b (b := 1 + b) (by omega)) (by decide)]
    exact ⟨_, _, rfl, arm_div (by omega) (by omega), h3⟩
theorem int_rq (a : Int) : D.tup [.int a, .int 1] = rq (Rat.divInt a 1) := by
  show _ = D.tup [.int (Rat.divInt a 1).num, .int ((Rat.divInt a 1).den : Int)]
  rw [(divInt_one a).1, (divInt_one a).2]
  rfl
theorem coord_w (hi : HandI w) : ∃ q w', F__law_coordinate [.hand] w = .ok (rq q) w' ∧ Sm q ∧ HandI w' := by
  obtain ⟨k, w1, e1, k0, k9, h1⟩ := take_w (many := 5) (k := 3) hi (by decide) (by unfold Sz; decide) (by decide)
  unfold F__law_coordinate
  by_cases hk : k = 0
  · subst hk
    obtain ⟨a, w2, e2, a0, a9, h2⟩ := bounded_w h1
    obtain ⟨s, w3, e3, s0, s9, h3⟩ := take_w (many := 2) (k := 2) h2 (by decide) (by unfold Sz; decide) (by decide)
    obtain ⟨b, w4, e4, b0, b9, h4⟩ := bounded_w h3
    have ss : Sz 2 s := sz_of s0 (by omega)
    have two : Sz 2 2 := by unfold Sz; decide
    have sd : Sz 2 (1 - 2 * s) := by unfold Sz; omega
    have hs : s = 0 ∨ s = 1 := by omega
    simp? only [Nat.reduceSub, Nat.reduceAdd, e1, show ((0 : Int) != 0) = false from rfl, e2, e3, mul_int two ss, mul_int (sz_b (b := a) (by omega)) sd, e4, ratio_q (a := a * (1 - 2 * s)) (show b ≠ 0 by omega) (sz_b (b := b) (by omega)) (by decide)]
    refine ⟨_, _, rfl, sm_div (by omega) ?_ (by omega), h4⟩
    rcases hs with rfl | rfl <;> omega
  · have hb : (k != 0) = true := by simpa using hk
    obtain ⟨a, w2, e2, a0, a9, h2⟩ := take_w (many := 9) (k := 4) h1 (by decide) (by unfold Sz; decide) (by decide)
    simp? only [Nat.reduceSub, Nat.reduceAdd, e1, hb, e2, int_rq]
    exact ⟨_, _, rfl, sm_div (by omega) (by omega) (by omega), h2⟩
theorem near_w (hi : HandI w) : ∃ q w', F__law_near [.hand] w = .ok (rq q) w' ∧ Sm q ∧ HandI w' := by
  obtain ⟨a, w2, e2, a0, a9, h2⟩ := take_w (many := 9) (k := 4) hi (by decide) (by unfold Sz; decide) (by decide)
  obtain ⟨b, w3, e3, b0, b9, h3⟩ := take_w (many := 4) (k := 3) h2 (by decide) (by unfold Sz; decide) (by decide)
  unfold F__law_near
  by_cases hb : b = 0
  · subst hb
    simp? only [Nat.reduceSub, Nat.reduceAdd, e2, e3, show ((0 : Int) != 0) = false from rfl, ratio_q (a := a - 4) (show (2 : Int) ≠ 0 by decide) (sz_b (b := 2) (by decide)) (by decide)]
    exact ⟨_, _, rfl, sm_div (by decide) (by omega) (by decide), h3⟩
  · have hbb : (b != 0) = true := by simpa using hb
    simp? only [Nat.reduceSub, Nat.reduceAdd, e2, e3, hbb, ratio_q (a := a - 4) (show (1 : Int) ≠ 0 by decide) (sz_b (b := 1) (by decide)) (by decide)]
    exact ⟨_, _, rfl, sm_div (by decide) (by omega) (by decide), h3⟩
theorem cn_w (g : Bool) (hi : HandI w) : ∃ q w', ((g = true → F__law_coordinate [.hand] w = .ok (rq q) w') ∧ (g = false → F__law_near [.hand] w = .ok (rq q) w')) ∧ Sm q ∧ HandI w' := by
  cases g
  · obtain ⟨q, w', e, a, h⟩ := near_w hi
    exact ⟨q, w', ⟨fun z => (nomatch z), fun _ => e⟩, a, h⟩
  · obtain ⟨q, w', e, a, h⟩ := coord_w hi
    exact ⟨q, w', ⟨fun _ => e, fun z => (nomatch z)⟩, a, h⟩
abbrev Pl := Rat × Rat
abbrev pl (p : Pl) : D := .tup [rq p.1, rq p.2]
def PlOk (p : Pl) : Prop := Sm p.1 ∧ Sm p.2
theorem eqv_pl (p q : Pl) : D.eqv (pl p) (pl q) = decide (p = q) := by
  have e : D.eqv (pl p) (pl q) = (D.eqv (rq p.1) (rq q.1) && D.eqv (rq p.2) (rq q.2)) := by
    show D.eqvL [rq p.1, rq p.2] [rq q.1, rq q.2] = _
    simp only [D.eqvL, Bool.and_true]
  rw [e, flat_eqv_rq, flat_eqv_rq, Bool.eq_iff_iff]
  simp [Prod.ext_iff]
theorem any_pl (p : Pl) : ∀ ps : List Pl, ((ps.map pl).any fun y => D.eqv y (pl p)) = decide (p ∈ ps)
  | [] => rfl
  | q :: ps => by
    rw [List.map_cons, List.any_cons, any_pl p ps, eqv_pl, Bool.eq_iff_iff]
    simp only [Bool.or_eq_true, decide_eq_true_eq, List.mem_cons]
    exact or_congr eq_comm Iff.rfl
theorem in_pl (p : Pl) (ps : List Pl) : inD (pl p) (.lst (ps.map pl)) w = .ok (.bl (decide (p ∈ ps))) w := by
  rw [in_lst rfl (flatL_map ps fun _ _ => rfl), any_pl]
def zq (n : Nat) : Rat := Rat.divInt ((n : Int) - 3) 1
theorem zq_inj {m n : Nat} (h : zq m = zq n) : m = n := by
  have := congrArg Rat.num h
  unfold zq at this
  rw [(divInt_one _).1, (divInt_one _).1] at this
  omega
theorem zq_sm {n : Nat} (h : n ≤ 10) : Sm (zq n) := sm_div (by decide) (by omega) (by decide)
def uIt (ps : List Pl) : Nat → Nat → Pl → Pl
  | _, 0, p => p
  | n, m + 1, p => uIt ps (n + 1) m (if p ∈ ps then (zq n, p.2) else p)
theorem uIt_out {ps : List Pl} : ∀ (m n : Nat) (p : Pl), p ∉ ps → uIt ps n m p = p
  | 0, _, _, _ => rfl
  | m + 1, n, p, h => by
    unfold uIt
    rw [if_neg h]
    exact uIt_out m (n + 1) p h
theorem uIt_in {ps : List Pl} : ∀ (m n : Nat) (p : Pl), uIt ps n m p ∈ ps → p ∈ ps ∧ ∀ k, n ≤ k → k < n + m → (zq k, p.2) ∈ ps
  | 0, _, p, h => ⟨h, fun k h1 h2 => by omega⟩
  | m + 1, n, p, h => by
    by_cases hp : p ∈ ps
    · unfold uIt at h
      rw [if_pos hp] at h
      obtain ⟨h1, h2⟩ := uIt_in m (n + 1) _ h
      refine ⟨hp, fun k k1 k2 => ?_⟩
      by_cases e : k = n
      · subst e; exact h1
      · exact h2 k (by omega) (by omega)
    · rw [uIt_out (m + 1) n p hp] at h
      exact absurd h hp
theorem uIt_new {ps : List Pl} (p : Pl) (h : ps.length ≤ 5) : uIt ps 0 7 p ∉ ps := fun z => by
  obtain ⟨_, hk⟩ := uIt_in 7 0 p z
  have := nd_sub ((List.range 7).map fun k => (zq k, p.2)) ps (by
    refine List.pairwise_map.mpr ((List.nodup_range (n := 7)).imp fun {a b} ne e => ne (zq_inj (Prod.ext_iff.mp e).1)) ) (fun x hx => by
    obtain ⟨k, hk1, rfl⟩ := List.mem_map.mp hx
    exact hk k (by omega) (by have := List.mem_range.mp hk1; omega))
  rw [List.length_map, List.length_range] at this
  omega
theorem uIt_ok {ps : List Pl} : ∀ (m n : Nat) (p : Pl), PlOk p → n + m ≤ 10 → PlOk (uIt ps n m p)
  | 0, _, _, h, _ => h
  | m + 1, n, p, h, hm => by
    unfold uIt
    refine uIt_ok m (n + 1) _ ?_ (by omega)
    by_cases hp : p ∈ ps
    · rw [if_pos hp]; exact ⟨zq_sm (by omega), h.2⟩
    · rw [if_neg hp]; exact h
theorem unlikeL {ps : List Pl} : ∀ (m n : Nat) (p : Pl) (s2 : Slot), ∃ u2, forL (gN 2) B__law_unlike_0 (rng n m) [.val (pl p), .val (.lst (ps.map pl)), s2] w = .nx [.val (pl (uIt ps n m p)), .val (.lst (ps.map pl)), u2] w
  | 0, _, _, s2 => ⟨s2, rfl⟩
  | m + 1, n, p, s2 => by
    obtain ⟨u2, e⟩ := unlikeL (ps := ps) m (n + 1) (if p ∈ ps then (zq n, p.2) else p) (.val (.int (n : Int)))
    refine ⟨u2, ?_⟩
    show forL (gN 2) B__law_unlike_0 (.int (n : Int) :: rng (n + 1) m) _ _ = _
    have zr : D.tup [.int ((n : Int) - 3), .int 1] = rq (zq n) := int_rq _
    by_cases hp : p ∈ ps
    · rw [if_pos hp] at e
      have i := in_pl (w := w) p ps
      rw [decide_eq_true hp] at i
      simp? only [Nat.reduceSub, Nat.reduceAdd, B__law_unlike_0_w, i, zr]
      rw [e]
      show _ = SR.nx [.val (pl (uIt ps (n + 1) m (if p ∈ ps then (zq n, p.2) else p))), _, _] w
      rw [if_pos hp]
    · rw [if_neg hp] at e
      have i := in_pl (w := w) p ps
      rw [decide_eq_false hp] at i
      simp? only [Nat.reduceSub, Nat.reduceAdd, B__law_unlike_0_w, i]
      rw [e]
      show _ = SR.nx [.val (pl (uIt ps (n + 1) m (if p ∈ ps then (zq n, p.2) else p))), _, _] w
      rw [if_neg hp]
theorem unlike_w (ps : List Pl) (p : Pl) : F__law_unlike [pl p, .lst (ps.map pl)] w = .ok (pl (uIt ps 0 7 p)) w := by
  obtain ⟨u2, e⟩ := unlikeL (w := w) (ps := ps) 7 0 p .none
  have r : rangeM (.int 0) (.int 7) w = .ok (rng 0 7) w := range0 7 (by decide)
  unfold F__law_unlike
  simp? only [Nat.reduceSub, Nat.reduceAdd, r, e]
theorem noH_pl (ps : List Pl) : noHandL (ps.map pl) = true := noHandL_map (fun _ => rfl) ps
theorem spotsL {g : Bool} {s1 s4 s6 : Slot} : ∀ (m n : Nat) (ps : List Pl) (s5 s7 : Slot) (w : Wd), HandI w → (∀ p ∈ ps, PlOk p) → ps.Nodup → ps.length + m ≤ 6 → ∃ (ps' : List Pl) (w' : Wd) (u5 u7 : Slot), forL (gN 5) B__law_spots_1 (rng n m) [.val .hand, s1, .val (.bl g), .own (ps.map pl), s4, s5, s6, s7] w
    = .nx [.val .hand, s1, .val (.bl g), .own (ps'.map pl), s4, u5, s6, u7] w' ∧ HandI w' ∧ (∀ p ∈ ps', PlOk p) ∧ ps'.Nodup ∧ ps'.length = ps.length + m
  | 0, n, ps, s5, s7, w, hi, h, nd, _ => ⟨ps, w, s5, s7, rfl, hi, h, nd, rfl⟩
  | m + 1, n, ps, s5, s7, w, hi, h, nd, hm => by
    obtain ⟨x, w1, e1, x1, h1⟩ := cn_w g hi
    obtain ⟨y, w2, e2, y1, h2⟩ := cn_w g h1
    have ll : (ps.map pl).length < line := by rw [List.length_map]; unfold line; omega
    have em : ps.map pl ++ [pl (uIt ps 0 7 (x, y))] = (ps ++ [uIt ps 0 7 (x, y)]).map pl := by rw [List.map_append]; rfl
    have un := uIt_new (ps := ps) (x, y) (by omega)
    obtain ⟨ps', w', u5, u7, e, q1, q2, q3, q4⟩ := spotsL (g := g) (s1 := s1) (s4 := s4) (s6 := s6) m (n + 1) (ps ++ [uIt ps 0 7 (x, y)]) (.val (.int (n : Int))) (.val (pl (x, y))) w2 h2 (fun p hp => by
      rcases List.mem_append.mp hp with hp | hp
      · exact h p hp
      · rw [List.mem_singleton.mp hp]; exact uIt_ok 7 0 _ ⟨x1, y1⟩ (by decide)) (List.nodup_append.mpr ⟨nd, List.pairwise_singleton _ _, fun a ha b hb e => by
        rw [List.mem_singleton.mp hb] at e
        exact un (e ▸ ha)⟩) (by rw [List.length_append, List.length_singleton]; omega)
    refine ⟨ps', w', u5, u7, ?_, q1, q2, q3, by rw [q4, List.length_append, List.length_singleton]; omega⟩
    show forL (gN 5) B__law_spots_1 (.int (n : Int) :: rng (n + 1) m) _ _ = _
    have uw := unlike_w (w := none) ps (x, y)
    have bs : ∀ p : Pl, borS (.val (pl p)) = .val (pl p) := fun p => borS_v rfl
    have bv : ∀ p : Pl, borK (.ok (pl p) none) w2 = .ok (pl p) w2 := fun p => borK_v rfl
    cases g
    · simp? only [Nat.reduceSub, Nat.reduceAdd, B__law_spots_1_w, e1.2 rfl, e2.2 rfl, bs (x, y), borS_o (noH_pl ps), uw, bv, appK_v 3 _ ll, em]
      exact e
    · simp? only [Nat.reduceSub, Nat.reduceAdd, B__law_spots_1_w, e1.1 rfl, e2.1 rfl, bs (x, y), borS_o (noH_pl ps), uw, bv, appK_v 3 _ ll, em]
      exact e
def rowP (a b : Int) (n : Int) : Pl := (Rat.divInt (n * a) 1, Rat.divInt (n * b) 1)
theorem rowP_inj {a b m n : Int} (h : a ≠ 0 ∨ b ≠ 0) (e : rowP a b m = rowP a b n) : m = n := by
  have e1 := congrArg (fun p : Pl => p.1.num) e
  have e2 := congrArg (fun p : Pl => p.2.num) e
  simp only [rowP, (divInt_one _).1] at e1 e2
  rcases h with h | h
  · exact Int.eq_of_mul_eq_mul_right h e1
  · exact Int.eq_of_mul_eq_mul_right h e2
/-- places in a row: steps -/
def StepsOk (n : Nat) (ss : List Int) : Prop := ss.Nodup ∧ ∀ s ∈ ss, 0 ≤ s ∧ s < 2 * n
theorem rowL {a b many : Int} {s2 s7 : Slot} (ha : -2 ≤ a ∧ a ≤ 2) (hb : -2 ≤ b ∧ b ≤ 2) (m6 : many ≤ 6) : ∀ (m n : Nat) (ss : List Int) (s5 s6 : Slot) (w : Wd), HandI w → StepsOk n ss → ss.length = n → (n : Int) + m = many → ∃ (ss' : List Int) (w' : Wd) (u5 u6 : Slot), forL (gN 5) B__law_spots_0 (rng n m) [.val .hand, .val (.int many), s2, .own ((ss.map (rowP a b)).map pl), .val (.tup [.int a, .int b]), s5, s6, s7] w
    = .nx [.val .hand, .val (.int many), s2, .own ((ss'.map (rowP a b)).map pl), .val (.tup [.int a, .int b]), u5, u6, s7] w' ∧ HandI w' ∧ ss'.Nodup ∧ (∀ s ∈ ss', -1 ≤ s ∧ s ≤ 12) ∧ ss'.length = n + m
  | 0, n, ss, s5, s6, w, hi, h, hl, hm => ⟨ss, w, s5, s6, rfl, hi, h.1, fun s hs => by have := h.2 s hs; omega, hl⟩
  | m + 1, n, ss, s5, s6, w, hi, h, hl, hm => by
    have ll : ((ss.map (rowP a b)).map pl).length < line := by rw [List.length_map, List.length_map]; unfold line; omega
    have sa : Sz 2 a := by unfold Sz; omega
    have sb : Sz 2 b := by unfold Sz; omega
    have two : Sz 2 2 := by unfold Sz; decide
    have zr : ∀ x : Int, D.tup [.int x, .int 1] = rq (Rat.divInt x 1) := int_rq
    have em : ∀ s : Int, (ss.map (rowP a b)).map pl ++ [.tup [rq (Rat.divInt (s * a) 1), rq (Rat.divInt (s * b) 1)]] = ((ss ++ [s]).map (rowP a b)).map pl := fun s => by
      rw [List.map_append, List.map_append]; rfl
    show ∃ (ss' : List Int) (w' : Wd) (u5 u6 : Slot), forL (gN 5) B__law_spots_0 (.int (n : Int) :: rng (n + 1) m) _ _ = _ ∧ _
    by_cases hn : (n : Int) < many - 1
    · obtain ⟨t, w1, e1, t0, t9, h1⟩ := take_w (many := 2) (k := 2) hi (by decide) (by unfold Sz; decide) (by decide)
      have ok : StepsOk (n + 1) (ss ++ [(n : Int) * 2 + t]) := ⟨List.nodup_append.mpr ⟨h.1, List.pairwise_singleton _ _, fun x hx y hy e => by
          rw [List.mem_singleton.mp hy] at e
          have := (h.2 x hx).2
          omega⟩, fun s hs => by
          rcases List.mem_append.mp hs with hs | hs
          · have := h.2 s hs; omega
          · rw [List.mem_singleton.mp hs]; omega⟩
      obtain ⟨ss', w', u5, u6, e, r⟩ := rowL (s2 := s2) (s7 := s7) ha hb m6 m (n + 1) (ss ++ [(n : Int) * 2 + t]) (.val (.int (n : Int))) (.val (.int ((n : Int) * 2 + t))) w1 h1 ok (by rw [List.length_append, List.length_singleton, hl]) (by omega)
      refine ⟨ss', w', u5, u6, ?_, r.1, r.2.1, r.2.2.1, by rw [r.2.2.2]; omega⟩
      have sn : Sz 4 (n : Int) := by unfold Sz; omega
      have st : Sz 5 ((n : Int) * 2 + t) := by unfold Sz; omega
      simp? only [Nat.reduceSub, Nat.reduceAdd, B__law_spots_0_w, hn, mul_int sn two, e1, mul_int st sa, mul_int st sb, zr, appK_v 3 _ ll, em]
      exact e
    · have hm0 : m = 0 := by omega
      subst hm0
      have s1 : Sz 2 (-1) := by unfold Sz; decide
      refine ⟨ss ++ [-1], w, .val (.int (n : Int)), .val (.int (-1)), ?_, hi, List.nodup_append.mpr ⟨h.1, List.pairwise_singleton _ _, fun x hx y hy e => by
          rw [List.mem_singleton.mp hy] at e
          have := (h.2 x hx).1
          omega⟩, fun s hs => by
          rcases List.mem_append.mp hs with hs | hs
          · have := h.2 s hs; omega
          · rw [List.mem_singleton.mp hs]; omega, by rw [List.length_append, List.length_singleton, hl]⟩
      simp? only [Nat.reduceSub, Nat.reduceAdd, B__law_spots_0_w, hn, mul_int s1 sa, mul_int s1 sb, zr, appK_v 3 _ ll, em]
      rfl
theorem spots_w {m : Int} (g : Bool) (hi : HandI w) (m0 : 0 ≤ m) (m9 : m ≤ 6) : ∃ (ps : List Pl) (w' : Wd), F__law_spots [.hand, .int m, .bl g] w = .ok (.lst (ps.map pl)) w' ∧ (∀ p ∈ ps, PlOk p) ∧ ps.Nodup ∧ ps.length = m.toNat ∧ HandI w' := by
  have r : ∀ w : Wd, rangeM (.int 0) (.int m) w = .ok (rng 0 m.toNat) w := fun w => range0i (w := w) (i := m) m0 (by omega)
  have free : ∀ (w : Wd) (s4 s6 : Slot), HandI w → ∃ (ps : List Pl) (w' : Wd) (u5 u7 : Slot), forL (gN 5) B__law_spots_1 (rng 0 m.toNat) [.val .hand, .val (.int m), .val (.bl g), .own [], s4, .none, s6, .none] w = .nx [.val .hand, .val (.int m), .val (.bl g), .own (ps.map pl), s4, u5, s6, u7] w' ∧ (∀ p ∈ ps, PlOk p) ∧ ps.Nodup ∧ ps.length = m.toNat ∧ HandI w' := fun w s4 s6 hi => by
    obtain ⟨ps, w', u5, u7, e, hi', ok, nd, hl⟩ := spotsL (g := g) (s1 := .val (.int m)) (s4 := s4) (s6 := s6) m.toNat 0 [] .none .none w hi (fun _ h => by cases h) List.nodup_nil (by simp only [List.length_nil]; omega)
    exact ⟨ps, w', u5, u7, e, ok, nd, by simpa using hl, hi'⟩
  unfold F__law_spots
  cases g with
  | true =>
    obtain ⟨ps, w', u5, u7, e, ok, nd, hl, hi'⟩ := free w .none .none hi
    refine ⟨ps, w', ?_, ok, nd, hl, hi'⟩
    simp? only [Nat.reduceSub, Nat.reduceAdd, r, e]
  | false =>
    obtain ⟨k, w1, e1, k0, k9, h1⟩ := take_w (many := 8) (k := 4) hi (by decide) (by unfold Sz; decide) (by decide)
    by_cases hk : k = 0
    · subst hk
      obtain ⟨j, w2, e2, j0, j9, h2⟩ := take_w (many := 4) (k := 3) h1 (by decide) (by unfold Sz; decide) (by decide)
      have pick : ∃ a b : Int, itemAt [D.tup [.int 1, .int 0], .tup [.int 0, .int 1], .tup [.int 1, .int 1], .tup [.int 2, .int (-1)]] j = some (.tup [.int a, .int b]) ∧ (a ≠ 0 ∨ b ≠ 0) ∧ (-2 ≤ a ∧ a ≤ 2) ∧ (-2 ≤ b ∧ b ≤ 2) := by
        have hj : j = 0 ∨ j = 1 ∨ j = 2 ∨ j = 3 := by omega
        rcases hj with rfl | rfl | rfl | rfl
        all_goals exact ⟨_, _, rfl, by decide, by decide, by decide⟩
      obtain ⟨a, b, ep, hab, ha, hb⟩ := pick
      obtain ⟨ss, w', u5, u6, e, hi', nd, bd, hl⟩ := rowL (s2 := .val (.bl false)) (s7 := .none) ha hb m9 m.toNat 0 [] .none .none w2 h2 ⟨List.nodup_nil, fun _ h => by cases h⟩ rfl (by omega)
      rw [List.map_nil, List.map_nil] at e
      refine ⟨ss.map (rowP a b), w', ?_, fun p hp => ?_, ?_, by rw [List.length_map, hl]; omega, hi'⟩
      · simp? only [Nat.reduceSub, Nat.reduceAdd, e1, e2, ep, r, e, retOwn_w, retOwnK_v]
      · obtain ⟨s, hs, rfl⟩ := List.mem_map.mp hp
        have := bd s hs
        have lo : ∀ c : Int, -2 ≤ c ∧ c ≤ 2 → -1000000000000 ≤ s * c ∧ s * c ≤ 1000000000000 := fun c hc => by
          have h1 : s * c = s * (-2) ∨ s * c = s * (-1) ∨ s * c = s * 0 ∨ s * c = s * 1 ∨ s * c = s * 2 := by
            have : c = -2 ∨ c = -1 ∨ c = 0 ∨ c = 1 ∨ c = 2 := by omega
            rcases this with rfl | rfl | rfl | rfl | rfl <;> simp
          omega
        exact ⟨sm_div (by decide) (lo a ha) (by decide), sm_div (by decide) (lo b hb) (by decide)⟩
      · exact List.pairwise_map.mpr (nd.imp fun {x y} ne e => ne (rowP_inj hab e))
    · obtain ⟨ps, w', u5, u7, e, ok, nd, hl, hi'⟩ := free w1 .none .none h1
      have hb : (k == 0) = false := by simpa using hk
      refine ⟨ps, w', ?_, ok, nd, hl, hi'⟩
      simp? only [Nat.reduceSub, Nat.reduceAdd, e1, hb, r, e]
end K02

namespace K02
open PySem FL
variable {w : Wd}
structure Mp where
  p : Option Pl
  d : D
def PBad (d : D) : Prop := ∀ w : Wd, F_is_place [d] w = .ok (.bl false) w
def PGood (d : D) (p : Pl) : Prop := PlOk p ∧ (d = pl p ∨ d = .lst [rq p.1, rq p.2])
theorem place_t {p : Pl} (h : PlOk p) : F_is_place [pl p] w = .ok (.bl true) w := by
  unfold F_is_place
  simp? only [Nat.reduceSub, Nat.reduceAdd, isi_lt_t, Int.cast_ofNat_Int, show ((2 : Nat) : Int) = 2 from rfl, beq_self_eq_true, small_t h.1, small_t h.2]
theorem place_l {p : Pl} (h : PlOk p) : F_is_place [.lst [rq p.1, rq p.2]] w = .ok (.bl true) w := by
  unfold F_is_place
  simp? only [Nat.reduceSub, Nat.reduceAdd, isi_lt_l, Int.cast_ofNat_Int, show ((2 : Nat) : Int) = 2 from rfl, beq_self_eq_true, small_t h.1, small_t h.2]
theorem PGood.is {d : D} {p : Pl} (h : PGood d p) : F_is_place [d] w = .ok (.bl true) w := by
  rcases h.2 with e | e
  · rw [e]; exact place_t h.1
  · rw [e]; exact place_l h.1
theorem PGood.ix0 {d : D} {p : Pl} (h : PGood d p) : ixD d (.int 0) w = .ok (rq p.1) w := by
  rcases h.2 with e | e <;> (rw [e]; rfl)
theorem PGood.ix1 {d : D} {p : Pl} (h : PGood d p) : ixD d (.int 1) w = .ok (rq p.2) w := by
  rcases h.2 with e | e <;> (rw [e]; rfl)
theorem PGood.nh {d : D} {p : Pl} (h : PGood d p) : noHand d = true := by
  rcases h.2 with e | e <;> (rw [e]; rfl)
abbrev pll (p : Pl) : D := .lst [rq p.1, rq p.2]
end K02

namespace K02
open PySem FL
variable {w : Wd}
/-! ### what is due -/
inductive Res where
  | bad (n : Nat) (s : Str)
  | ok (ps : List Pl)
def Res.d : Res → D
  | .bad n s => .tup [.int (n : Int), .str s]
  | .ok ps => .tup (ps.map pl)
def due : Nat → List Pl → List (Option Pl) → Res
  | _, kn, [] => .ok kn
  | n, _, none :: _ => .bad n "place"
  | n, kn, some p :: r => if p ∈ kn then .bad n "twice" else due (n + 1) (kn ++ [p]) r
def dueAll (xs : List (Option Pl)) : Res := if 2 ≤ xs.length ∧ xs.length ≤ 6 then due 0 [] xs else .bad 0 "many"
theorem due_len : ∀ (xs : List (Option Pl)) (n : Nat) (kn ps : List Pl), due n kn xs = .ok ps → ps.length = kn.length + xs.length
  | [], n, kn, ps, h => by cases h; rfl
  | none :: r, n, kn, ps, h => by cases h
  | some p :: r, n, kn, ps, h => by
    unfold due at h
    split at h
    · cases h
    · have := due_len r _ _ _ h
      rw [this, List.length_append, List.length_singleton, List.length_cons]
      omega
def MpB (q : Mp) : Prop := (q.p = none → PBad q.d) ∧ ∀ p, q.p = some p → PGood q.d p
def chkR (r : Res) (k : List Pl → SR) (ρ : FL.Env) (w : Wd) : SR := match r with
  | .ok ps => k ps
  | .bad n s => .ex 2 ["index", "what"] [.int (n : Int), .str s] ρ w
theorem checkL : ∀ (qs : List Mp) (n : Nat) (kn : List Pl) (s0 s2 s3 s4 : Slot), (∀ q ∈ qs, MpB q) → kn.length + qs.length < 10000 → ∃ (u2 u3 u4 : Slot) (ρ' : FL.Env), forL (gT [2, 3]) B_check_places_0 (enumAt n (qs.map Mp.d)) [s0, .own (kn.map pl), s2, s3, s4] w
    = chkR (due n kn (qs.map Mp.p)) (fun ps => .nx [s0, .own (ps.map pl), u2, u3, u4] w) ρ' w
  | [], n, kn, s0, s2, s3, s4, _, _ => ⟨s2, s3, s4, [], rfl⟩
  | q :: qs, n, kn, s0, s2, s3, s4, h, hl => by
    rw [List.map_cons, List.map_cons]
    show ∃ (u2 u3 u4 : Slot) (ρ' : FL.Env), forL _ _ (.tup [.int (n : Int), q.d] :: enumAt (n + 1) (qs.map Mp.d)) _ _ = _
    rw [forT2]
    have hq := h q (List.mem_cons_self ..)
    rw [List.length_cons] at hl
    obtain ⟨qp, d⟩ := q
    cases qp with
    | none =>
      have hb : PBad d := hq.1 rfl
      refine ⟨.none, .none, .none, [s0, .own (kn.map pl), .val (.int (n : Int)), .val d, s4], ?_⟩
      simp? only [Nat.reduceSub, Nat.reduceAdd, B_check_places_0_w, hb w]
      rfl
    | some p =>
      have gd : PGood d p := hq.2 p rfl
      have i := in_pl (w := none) p kn
      have ii : ∀ w : Wd, inD (.tup [rq p.1, rq p.2]) (.lst (kn.map pl)) none = .ok (.bl (decide (p ∈ kn))) none := fun _ => i
      have np : noHand (.tup [rq p.1, rq p.2]) = true := rfl
      by_cases hp : p ∈ kn
      · refine ⟨.none, .none, .none, [s0, .own (kn.map pl), .val (.int (n : Int)), .val d, .val (pl p)], ?_⟩
        have hd : due n kn (some p :: qs.map Mp.p) = .bad n "twice" := if_pos hp
        rw [hd]
        simp? only [Nat.reduceSub, Nat.reduceAdd, B_check_places_0_w, gd.is, tBor_w, borE_c, borE_n, borS_v gd.nh, borS_v np, borS_o (noH_pl kn), gd.ix0, gd.ix1, ii none, hp, decide_true, borT_v, borS_v (d := .int (n : Int)) rfl]
        rfl
      · have ll : (kn.map pl).length < line := by rw [List.length_map]; unfold line; omega
        have em : kn.map pl ++ [.tup [rq p.1, rq p.2]] = (kn ++ [p]).map pl := by rw [List.map_append]; rfl
        obtain ⟨u2, u3, u4, ρ', e⟩ := checkL qs (n + 1) (kn ++ [p]) s0 (.val (.int (n : Int))) (.val d) (.val (pl p)) (fun x hx => h x (List.mem_cons_of_mem _ hx)) (by rw [List.length_append, List.length_singleton]; omega)
        refine ⟨u2, u3, u4, ρ', ?_⟩
        have hd : due n kn (some p :: qs.map Mp.p) = due (n + 1) (kn ++ [p]) (qs.map Mp.p) := if_neg hp
        rw [hd, ← e]
        simp? only [Nat.reduceSub, Nat.reduceAdd, B_check_places_0_w, gd.is, tBor_w, borE_c, borE_n, borS_v gd.nh, borS_v np, borS_o (noH_pl kn), gd.ix0, gd.ix1, ii none, hp, decide_false, borT_v, borS_v (d := .int (n : Int)) rfl, appK_v 1 _ ll, em]
theorem len_c {c : List D → D} (hc : c = D.lst ∨ c = D.tup) (xs : List D) : lenD (c xs) w = .ok (.int (xs.length : Int)) w := by rcases hc with rfl | rfl <;> rfl
theorem isi_c {c : List D → D} (hc : c = D.lst ∨ c = D.tup) (xs : List D) : isiB [.list, .tuple] (c xs) w = .ok (.bl true) w := hc.elim (fun z => (by rw [z]; exact isi_lt_l _)) (fun z => (by rw [z]; exact isi_lt_t _))
theorem seq_c {c : List D → D} (hc : c = D.lst ∨ c = D.tup) (xs : List D) : seqOf (c xs) w = .ok xs w := by rcases hc with rfl | rfl <;> rfl
theorem try_w {qs : List Mp} (h : ∀ q ∈ qs, MpB q) (hl : qs.length ≤ 1000) {c : List D → D} (hc : c = D.lst ∨ c = D.tup) : F__law_try [c (qs.map Mp.d)] w = .ok (dueAll (qs.map Mp.p)).d w := by
  have x1 : ∀ (x y : D) (w : Wd), xfK (some (.exc 2 ["index", "what"] [x, y])) "index" w = .ok x w := fun x y w => xfK_v 2 _ _ _ rfl
  have x2 : ∀ (x y : D) (w : Wd), xfK (some (.exc 2 ["index", "what"] [x, y])) "what" w = .ok y w := fun x y w => xfK_v 2 _ _ _ rfl
  have ic := fun w : Wd => isi_c (w := w) hc (qs.map Mp.d)
  have lc := fun w : Wd => len_c (w := w) hc (qs.map Mp.d)
  have sc := fun w : Wd => seq_c (w := w) hc (qs.map Mp.d)
  have te := fun (ns : List Str) (xs : List D) (i : Nat) (su : SF) (ρ : FL.Env) => tryK_ex (ρ := ρ) (w := w) (c := 2) ns xs (cs := [2]) [] i su (show (2 : Nat) ∈ [2] by decide)
  by_cases h2 : 2 ≤ qs.length
  · have z2 : (2 : Int) ≤ (qs.length : Int) := by omega
    by_cases h6 : qs.length ≤ 6
    · have z6 : (qs.length : Int) ≤ 6 := by omega
      have e0 : dueAll (qs.map Mp.p) = due 0 [] (qs.map Mp.p) := if_pos (by rw [List.length_map]; exact ⟨h2, h6⟩)
      rw [e0]
      obtain ⟨u2, u3, u4, ρ', e⟩ := checkL (w := w) qs 0 [] (.val (c (qs.map Mp.d))) .none .none .none h (by rw [List.length_nil]; omega)
      rw [List.map_nil] at e
      cases hd : due 0 [] (qs.map Mp.p) with
      | bad n s =>
        rw [hd] at e
        have ch : F_check_places [c (qs.map Mp.d)] w = .ex 2 ["index", "what"] [.int (n : Int), .str s] w := by
          unfold F_check_places
          simp? only [Nat.reduceSub, Nat.reduceAdd, ic, lc, List.length_map, z2, z6, decide_true, sc, e, chkR]
        unfold F__law_try
        simp? only [Nat.reduceSub, Nat.reduceAdd, ch, te, x1, x2]
        rfl
      | ok ps =>
        rw [hd] at e
        have ch : F_check_places [c (qs.map Mp.d)] w = .ok (.tup (ps.map pl)) w := by
          unfold F_check_places
          simp? only [Nat.reduceSub, Nat.reduceAdd, ic, lc, List.length_map, z2, z6, decide_true, sc, e, chkR]
        unfold F__law_try
        simp? only [Nat.reduceSub, Nat.reduceAdd, ch]
        rfl
    · have z6 : ¬ (qs.length : Int) ≤ 6 := by omega
      have e0 : dueAll (qs.map Mp.p) = .bad 0 "many" := if_neg (by rw [List.length_map]; omega)
      rw [e0]
      have ch : F_check_places [c (qs.map Mp.d)] w = .ex 2 ["index", "what"] [.int 0, .str "many"] w := by
        unfold F_check_places
        simp? only [Nat.reduceSub, Nat.reduceAdd, ic, lc, List.length_map, z2, z6, decide_true, decide_false]
      unfold F__law_try
      simp? only [Nat.reduceSub, Nat.reduceAdd, ch, te, x1, x2]
      rfl
  · have z2 : ¬ (2 : Int) ≤ (qs.length : Int) := by omega
    have e0 : dueAll (qs.map Mp.p) = .bad 0 "many" := if_neg (by rw [List.length_map]; omega)
    rw [e0]
    have ch : F_check_places [c (qs.map Mp.d)] w = .ex 2 ["index", "what"] [.int 0, .str "many"] w := by
      unfold F_check_places
      simp? only [Nat.reduceSub, Nat.reduceAdd, ic, lc, List.length_map, z2, decide_false]
    unfold F__law_try
    simp? only [Nat.reduceSub, Nat.reduceAdd, ch, te, x1, x2]
    rfl
theorem try_no {d : D} (hd : ∀ w : Wd, isiB [.list, .tuple] d w = .ok (.bl false) w) : F__law_try [d] w = .ok (.tup [.int 0, .str "many"]) w := by
  have x1 : ∀ (x y : D) (w : Wd), xfK (some (.exc 2 ["index", "what"] [x, y])) "index" w = .ok x w := fun x y w => xfK_v 2 _ _ _ rfl
  have x2 : ∀ (x y : D) (w : Wd), xfK (some (.exc 2 ["index", "what"] [x, y])) "what" w = .ok y w := fun x y w => xfK_v 2 _ _ _ rfl
  have ch : F_check_places [d] w = .ex 2 ["index", "what"] [.int 0, .str "many"] w := by
    unfold F_check_places
    simp? only [Nat.reduceSub, Nat.reduceAdd, hd]
  unfold F__law_try
  simp? only [Nat.reduceSub, Nat.reduceAdd, ch, tryK_ex (c := 2) _ _ _ _ _ (show (2 : Nat) ∈ [2] by decide), x1, x2]
end K02

namespace K02
open PySem FL
variable {w : Wd}
/-! ### what a text of data measures -/
theorem shown_i {i : Int} (h : Sz 40 i) : (D.int i).py.shown.length ≤ 14 := toStr_len (n := 13) h (by decide) (by decide)
theorem able_i {i : Int} (h : Sz 40 i) : (D.int i).py.showable = true := by
  have := h.log
  show decide (i.natAbs.log2 < 1920) = true
  rw [decide_eq_true]
  omega
theorem able_q {q : Rat} (h : SzQ 40 q) : (rq q).py.showable = true := by
  show ((D.int q.num).py.showable && ((D.int (q.den : Int)).py.showable && true)) = true
  rw [able_i h.1, able_i h.2]; rfl
theorem pyL_map : ∀ ds : List D, D.pyL ds = ds.map D.py
  | [] => by simp [D.pyL]
  | d :: ds => by simp only [D.pyL, List.map_cons, pyL_map ds]
theorem shownAll_map : ∀ ds : List PyData, PyData.shownAll ds = ds.map PyData.shown
  | [] => by simp [PyData.shownAll]
  | d :: ds => by simp only [PyData.shownAll, List.map_cons, shownAll_map ds]
theorem showableAll_all : ∀ ds : List PyData, PyData.showableAll ds = ds.all PyData.showable
  | [] => by simp [PyData.showableAll]
  | d :: ds => by simp only [PyData.showableAll, List.all_cons, showableAll_all ds]
theorem sum_le {α : Type} {f : α → Nat} {b : Nat} : ∀ xs : List α, (∀ x ∈ xs, f x ≤ b) → (xs.map f).sum ≤ xs.length * b
  | [], _ => by simp
  | x :: xs, h => by
    have a := h x (List.mem_cons_self ..)
    have r := sum_le xs fun y hy => h y (List.mem_cons_of_mem _ hy)
    rw [List.map_cons, List.sum_cons, List.length_cons, Nat.add_mul]
    omega
theorem list_len {ts : List Str} {b n : Nat} (h : ∀ t ∈ ts, t.length ≤ b) (hl : ts.length ≤ n) : (listText ts).length ≤ n * b + 2 * n + 3 := by
  have x := PySem.listText_len_le ts
  have y := sum_le (f := fun t : Str => t.length) ts h
  have z : ts.length * b ≤ n * b := Nat.mul_le_mul_right _ hl
  generalize (listText ts).length = u at x ⊢
  generalize (ts.map fun t : Str => t.length).sum = v at x y
  omega
theorem py_list (ds : List D) : (D.lst ds).py.shown = listText (ds.map fun d => d.py.shown) := by
  have e : (D.lst ds).py = .list (ds.map D.py) := by
    simp only [D.py, pyL_map]
  rw [e]
  simp only [PyData.shown, shownAll_map, List.map_map]
  rfl
theorem able_list {ds : List D} (h : ∀ d ∈ ds, d.py.showable = true) : (D.lst ds).py.showable = true := by
  have e : (D.lst ds).py = .list (ds.map D.py) := by
    simp only [D.py, pyL_map]
  rw [e]
  simp only [PyData.showable, showableAll_all, List.all_map, List.all_eq_true]
  exact h
theorem py_tup (ds : List D) : (D.tup ds).py.shown = tupleText (ds.map fun d => d.py.shown) := by
  have e : (D.tup ds).py = .tuple (ds.map D.py) := by
    simp only [D.py, pyL_map]
  rw [e]
  simp only [PyData.shown, shownAll_map, List.map_map]
  rfl
theorem able_tup {ds : List D} (h : ∀ d ∈ ds, d.py.showable = true) : (D.tup ds).py.showable = true := by
  have e : (D.tup ds).py = .tuple (ds.map D.py) := by
    simp only [D.py, pyL_map]
  rw [e]
  simp only [PyData.showable, showableAll_all, List.all_map, List.all_eq_true]
  exact h
theorem tup_len {ts : List Str} {b n : Nat} (h : ∀ t ∈ ts, t.length ≤ b) (hl : ts.length ≤ n) : (tupleText ts).length ≤ n * b + 2 * n + 3 := by
  have x := PySem.tupleText_len_le ts
  have y := sum_le (f := fun t : Str => t.length) ts h
  have z : ts.length * b ≤ n * b := Nat.mul_le_mul_right _ hl
  generalize (tupleText ts).length = u at x ⊢
  generalize (ts.map fun t : Str => t.length).sum = v at x y
  omega
theorem okS_from : ∀ (ts : List Str) (k : Nat) (acc : Str), okS acc → (∀ t ∈ ts, okS t) → okS (textFrom k acc ts)
  | [], _, _, h, _ => h
  | t :: ts, k, acc, h, g => okS_from ts (k + 1) _ (okS_app (okS_app h (okS_of _)) (g t (List.mem_cons_self ..))) fun y hy => g y (List.mem_cons_of_mem _ hy)
theorem okS_list {ts : List Str} (h : ∀ t ∈ ts, okS t) : okS (listText ts) := okS_app (okS_from ts 0 _ (okS_of "[") h) (okS_of "]")
theorem okS_tup1 {a : Str} (h : okS a) : okS (tupleText [a]) := okS_app (okS_app (okS_of "(") h) (okS_of _)
theorem okS_tup2 {a b : Str} (h : okS a) (g : okS b) : okS (tupleText [a, b]) := okS_app (okS_app (okS_of "(") (okS_app (okS_app h (okS_of ", ")) g)) (okS_of _)
theorem okS_tup3 {a b c : Str} (h : okS a) (g : okS b) (k : okS c) : okS (tupleText [a, b, c]) := okS_app (okS_app (okS_of "(") (okS_app (okS_app h (okS_of ", ")) (okS_app (okS_app g (okS_of ", ")) k))) (okS_of _)
theorem okS_tup {ts : List Str} (h : ∀ t ∈ ts, okS t) (h1 : 1 ≤ ts.length) (h3 : ts.length ≤ 3) : okS (tupleText ts) := by
  match ts, h, h1, h3 with
  | [a], h, _, _ => exact okS_tup1 (h a (by simp))
  | [a, b], h, _, _ => exact okS_tup2 (h a (by simp)) (h b (by simp))
  | [a, b, c], h, _, _ => exact okS_tup3 (h a (by simp)) (h b (by simp)) (h c (by simp))
/-- a thing whose text is told and short -/
structure Tx1 (b : Nat) (d : D) : Prop where
  s : d.py.showable = true
  l : d.py.shown.length ≤ b
  o : okS d.py.shown
theorem tx_i {i : Int} (h : Sz 40 i) : Tx1 14 (.int i) := ⟨able_i h, shown_i h, okS_of _⟩
theorem Tx1.up {b c : Nat} {d : D} (h : Tx1 b d) (hc : b ≤ c) : Tx1 c d := ⟨h.s, Nat.le_trans h.l hc, h.o⟩
theorem tx_t {b n : Nat} {ds : List D} (h : ∀ d ∈ ds, Tx1 b d) (hl : ds.length ≤ n) (h1 : 1 ≤ ds.length := by simp) (h3 : ds.length ≤ 3 := by simp) : Tx1 (n * b + 2 * n + 3) (.tup ds) := ⟨able_tup fun d hd => (h d hd).s, by
  rw [py_tup]
  refine tup_len (fun t ht => ?_) (by rw [List.length_map]; exact hl)
  obtain ⟨d, hd, rfl⟩ := List.mem_map.mp ht
  exact (h d hd).l, by
  rw [py_tup]
  refine okS_tup (fun t ht => ?_) (by rw [List.length_map]; exact h1) (by rw [List.length_map]; exact h3)
  obtain ⟨d, hd, rfl⟩ := List.mem_map.mp ht
  exact (h d hd).o⟩
theorem tx_l {b n : Nat} {ds : List D} (h : ∀ d ∈ ds, Tx1 b d) (hl : ds.length ≤ n) : Tx1 (n * b + 2 * n + 3) (.lst ds) := ⟨able_list fun d hd => (h d hd).s, by
  rw [py_list]
  refine list_len (fun t ht => ?_) (by rw [List.length_map]; exact hl)
  obtain ⟨d, hd, rfl⟩ := List.mem_map.mp ht
  exact (h d hd).l, by
  rw [py_list]
  refine okS_list fun t ht => ?_
  obtain ⟨d, hd, rfl⟩ := List.mem_map.mp ht
  exact (h d hd).o⟩
theorem mem2 {P : D → Prop} {a b : D} (ha : P a) (hb : P b) : ∀ d ∈ [a, b], P d := fun d hd => by
  rcases List.mem_cons.mp hd with rfl | hd
  · exact ha
  · rw [List.mem_singleton.mp hd]; exact hb
theorem tx_q {q : Rat} (h : SzQ 40 q) : Tx1 35 (rq q) := tx_t (n := 2) (b := 14) (mem2 (tx_i h.1) (tx_i h.2)) (by simp)
theorem tx_pl {p : Pl} (h : PlOk p) : Tx1 77 (pl p) := tx_t (n := 2) (b := 35) (mem2 (tx_q h.1.sz) (tx_q h.2.sz)) (by simp)
theorem tx_pll {p : Pl} (h : PlOk p) : Tx1 77 (pll p) := tx_l (n := 2) (b := 35) (mem2 (tx_q h.1.sz) (tx_q h.2.sz)) (by simp)
/-! ### bare things -/
theorem bare_n {n : Nat} : F__law_bare (n + 1) [.non] w = .ok .non w := by
  show callF 2 _ _ _ = _
  simp? only [Nat.reduceSub, Nat.reduceAdd]
theorem bare_i {n : Nat} (i : Int) : F__law_bare (n + 1) [.int i] w = .ok (.int i) w := by
  show callF 2 _ _ _ = _
  simp? only [Nat.reduceSub, Nat.reduceAdd]
theorem bare_s {n : Nat} (s : Str) : F__law_bare (n + 1) [.str s] w = .ok (.str s) w := by
  show callF 2 _ _ _ = _
  simp? only [Nat.reduceSub, Nat.reduceAdd]
theorem bare_c {n : Nat} {c : List D → D} (hc : c = D.lst ∨ c = D.tup) {xs ys : List D} (hl : xs.length ≤ 1000) (h : ∀ ρ : FL.Env, ρ.length = 2 → lcL (gN 1) tYes (eCall (F__law_bare n) [(eVar 1)]) ρ xs w = .ok ys w) : F__law_bare (n + 1) [c xs] w = .ok (.tup ys) w := by
  have l2 := h [.val (c xs), .none] rfl
  have ic := fun w : Wd => isi_c (w := w) hc xs
  have sc := fun w : Wd => seq_c (w := w) hc xs
  show callF 2 _ _ _ = _
  simp? only [Nat.reduceSub, Nat.reduceAdd, ic, sc, lcM_v _ _ _ _ (le_line hl), l2]
theorem bare_2 {n : Nat} {c : List D → D} (hc : c = D.lst ∨ c = D.tup) {a b a' b' : D} (h1 : ∀ w : Wd, F__law_bare n [a] w = .ok a' w) (h2 : ∀ w : Wd, F__law_bare n [b] w = .ok b' w) : F__law_bare (n + 1) [c [a, b]] w = .ok (.tup [a', b']) w :=
  bare_c hc (by simp) fun ρ hr => by
    have ga : (ρ.set 1 (.val a))[1]? = some (.val a) := by rw [List.getElem?_set_self (by omega)]
    have gb : (ρ.set 1 (.val b))[1]? = some (.val b) := by rw [List.getElem?_set_self (by omega)]
    simp? only [Nat.reduceSub, Nat.reduceAdd, ga, gb, h1, h2]
theorem bare_q {n : Nat} (q : Rat) : F__law_bare (n + 2) [rq q] w = .ok (rq q) w := bare_2 (n := n + 1) (c := D.tup) (.inr rfl) (fun w => bare_i _) (fun w => bare_i _)
theorem bare_1 {n : Nat} {a a' : D} (h1 : ∀ w : Wd, F__law_bare n [a] w = .ok a' w) : F__law_bare (n + 1) [.tup [a]] w = .ok (.tup [a']) w :=
  bare_c (c := D.tup) (.inr rfl) (by simp) fun ρ hr => by
    have ga : (ρ.set 1 (.val a))[1]? = some (.val a) := by rw [List.getElem?_set_self (by omega)]
    simp? only [Nat.reduceSub, Nat.reduceAdd, ga, h1]
theorem bare_3 {n : Nat} {a b c a' b' c' : D} (h1 : ∀ w : Wd, F__law_bare n [a] w = .ok a' w) (h2 : ∀ w : Wd, F__law_bare n [b] w = .ok b' w) (h3 : ∀ w : Wd, F__law_bare n [c] w = .ok c' w) : F__law_bare (n + 1) [.tup [a, b, c]] w = .ok (.tup [a', b', c']) w :=
  bare_c (c := D.tup) (.inr rfl) (by simp) fun ρ hr => by
    have ga : (ρ.set 1 (.val a))[1]? = some (.val a) := by rw [List.getElem?_set_self (by omega)]
    have gb : (ρ.set 1 (.val b))[1]? = some (.val b) := by rw [List.getElem?_set_self (by omega)]
    have gc : (ρ.set 1 (.val c))[1]? = some (.val c) := by rw [List.getElem?_set_self (by omega)]
    simp? only [Nat.reduceSub, Nat.reduceAdd, ga, gb, gc, h1, h2, h3]
/-! ### odd things -/
structure Odd (d : D) : Prop where
  a : PBad d
  b : ∃ e, (∀ w : Wd, F__law_bare 6 [d] w = .ok e w) ∧ D.flat 60 e = true
  f : D.flat 59 d = true
  n : noHand d = true
  t : Tx1 300 d
theorem small_no {d : D} (h : ∀ w : Wd, F_is_ratio [d] w = .ok (.bl false) w) : F_is_small [d] w = .ok (.bl false) w := by
  unfold F_is_small
  simp? only [Nat.reduceSub, Nat.reduceAdd, h]
theorem place_2 {c : List D → D} (hc : c = D.lst ∨ c = D.tup) {a b : D} {x y : Bool} (h1 : ∀ w : Wd, F_is_small [a] w = .ok (.bl x) w) (h2 : ∀ w : Wd, F_is_small [b] w = .ok (.bl y) w) (hxy : (x && y) = false) : PBad (c [a, b]) := fun w => by
  have i0 : ∀ w : Wd, ixD (c [a, b]) (.int 0) w = .ok a w := fun w => by rcases hc with rfl | rfl <;> rfl
  have i1 : ∀ w : Wd, ixD (c [a, b]) (.int 1) w = .ok b w := fun w => by rcases hc with rfl | rfl <;> rfl
  have ic := fun w : Wd => isi_c (w := w) hc [a, b]
  have lc : ∀ w : Wd, lenD (c [a, b]) w = .ok (.int 2) w := fun w => by rcases hc with rfl | rfl <;> rfl
  unfold F_is_place
  cases x with
  | false => simp? only [Nat.reduceSub, Nat.reduceAdd, ic, lc, i0, h1, beq_self_eq_true]
  | true =>
    have : y = false := hxy
    subst this
    simp? only [Nat.reduceSub, Nat.reduceAdd, ic, lc, i0, i1, h1, h2, beq_self_eq_true]
theorem place_t3 (a : D) (r : List D) (h : ((r.length + 1 : Nat) : Int) ≠ 2) : PBad (.tup (a :: r)) := fun w => by
  have hb : (((r.length + 1 : Nat) : Int) == 2) = false := beq_eq_false_iff_ne.mpr h
  have lc : ∀ w : Wd, lenD (.tup (a :: r)) w = .ok (.int ((r.length + 1 : Nat) : Int)) w := fun _ => rfl
  unfold F_is_place
  simp? only [Nat.reduceSub, Nat.reduceAdd, ↓lc, hb]
theorem small_l (xs : List D) : F_is_small [.lst xs] w = .ok (.bl false) w := small_no fun w => by
  unfold F_is_ratio
  simp? only [Nat.reduceSub, Nat.reduceAdd]
theorem small_big : F_is_small [.tup [.int (1000000000000 + 1), .int 1]] w = .ok (.bl false) w := by
  have e := isr_2 (w := w) (1000000000000 + 1) 1
  have h : (decide ((1 : Int) ≤ 1) && ((Nat.gcd ((1000000000000 : Int) + 1).natAbs (1 : Int).natAbs : Nat) : Int) == 1) = true := by decide +kernel
  rw [h] at e
  have l1 : (-1000000000000 : Int) ≤ 1000000000000 + 1 := by decide
  have l2 : ¬ ((1000000000000 : Int) + 1 ≤ 1000000000000) := by decide
  unfold F_is_small
  simp? only [Nat.reduceSub, Nat.reduceAdd, e, l1, l2, decide_true, decide_false]
theorem small_deep : F_is_small [.tup [.int 1, .int (1000000000000 + 1)]] w = .ok (.bl false) w := by
  have e := isr_2 (w := w) 1 (1000000000000 + 1)
  have h : (decide ((1 : Int) ≤ 1000000000000 + 1) && ((Nat.gcd (1 : Int).natAbs ((1000000000000 : Int) + 1).natAbs : Nat) : Int) == 1) = true := by decide +kernel
  rw [h] at e
  have l1 : (-1000000000000 : Int) ≤ 1 := by decide
  have l3 : (1 : Int) ≤ 1000000000000 := by decide
  have l2 : ¬ ((1000000000000 : Int) + 1 ≤ 1000000000000) := by decide
  unfold F_is_small
  simp? only [Nat.reduceSub, Nat.reduceAdd, e, l1, l2, l3, decide_true, decide_false]
theorem small_i (i : Int) : F_is_small [.int i] w = .ok (.bl false) w := small_no fun w => by
  unfold F_is_ratio
  simp? only [Nat.reduceSub, Nat.reduceAdd]
theorem small_24 : F_is_small [.tup [.int 2, .int 4]] w = .ok (.bl false) w := small_no fun w => by
  have e := isr_2 (w := w) 2 4
  have h : (decide ((1 : Int) ≤ 4) && ((Nat.gcd (2 : Int).natAbs (4 : Int).natAbs : Nat) : Int) == 1) = false := by decide
  rw [h] at e
  exact e
theorem sz1 : Sz 40 1 := by unfold Sz; decide
theorem szb : Sz 40 (1000000000000 + 1) := by unfold Sz; decide
theorem sz_k {i : Int} (h0 : 0 ≤ i) (h : i ≤ 10) : Sz 40 i := sz_of h0 (by omega)
theorem mem1 {P : D → Prop} {a : D} (ha : P a) : ∀ d ∈ [a], P d := fun d hd => by rw [List.mem_singleton.mp hd]; exact ha
theorem mem3 {P : D → Prop} {a b c : D} (ha : P a) (hb : P b) (hc : P c) : ∀ d ∈ [a, b, c], P d := fun d hd => by
  rcases List.mem_cons.mp hd with rfl | hd
  · exact ha
  · exact mem2 hb hc d hd
theorem odd_w {p : Pl} (h : PlOk p) (hi : HandI w) : ∃ d w', F__law_odd [.hand, pl p] w = .ok d w' ∧ Odd d ∧ HandI w' := by
  obtain ⟨k, w1, e1, k0, k9, h1⟩ := take_w (many := 6) (k := 3) hi (by decide) (by unfold Sz; decide) (by decide)
  have p12 : ∀ w : Wd, powD (.int 10) (.int 12) w = .ok (.int 1000000000000) w := fun w => by rw [pow_int (by decide)]; rfl
  have s1 := fun w : Wd => small_t (w := w) h.1
  have s2 := fun w : Wd => small_t (w := w) h.2
  have t1 := tx_q h.1.sz
  have t2 := tx_q h.2.sz
  have : k = 0 ∨ k = 1 ∨ k = 2 ∨ k = 3 ∨ k = 4 ∨ k = 5 := by omega
  unfold F__law_odd
  rcases this with rfl | rfl | rfl | rfl | rfl | rfl
  · refine ⟨.tup [rq p.1], w1, ?_, ⟨place_t3 _ _ (by decide), ⟨_, fun w => bare_1 fun w => bare_q (n := 3) _, rfl⟩, rfl, rfl, (tx_t (n := 1) (b := 35) (mem1 t1) (by simp)).up (by decide)⟩, h1⟩
    simp? only [Nat.reduceSub, Nat.reduceAdd, e1, beq_self_eq_true]
  · refine ⟨.tup [rq p.1, rq p.2, rq p.1], w1, ?_, ⟨place_t3 _ _ (show ((3 : Nat) : Int) ≠ 2 by decide), ⟨_, fun w => bare_3 (fun w => bare_q (n := 3) _) (fun w => bare_q (n := 3) _) (fun w => bare_q (n := 3) _), rfl⟩, rfl, rfl, (tx_t (n := 3) (b := 35) (mem3 t1 t2 t1) (by simp)).up (by decide)⟩, h1⟩
    simp? only [Nat.reduceSub, Nat.reduceAdd, e1, beq_self_eq_true, show ((1 : Int) == 0) = false from rfl]
  · refine ⟨.tup [rq p.1, .lst [.int p.2.num, .int (p.2.den : Int)]], w1, ?_, ⟨place_2 (c := D.tup) (.inr rfl) s1 (fun w => small_l _) rfl, ⟨_, fun w => bare_2 (c := D.tup) (.inr rfl) (fun w => bare_q (n := 3) _) (fun w => bare_2 (n := 4) (c := D.lst) (.inl rfl) (fun w => bare_i _) (fun w => bare_i _)), rfl⟩, rfl, rfl, (tx_t (n := 2) (b := 35) (mem2 t1 (tx_l (n := 2) (b := 14) (mem2 (tx_i h.2.sz.1) (tx_i h.2.sz.2)) (by simp))) (by simp)).up (by decide)⟩, h1⟩
    simp? only [Nat.reduceSub, Nat.reduceAdd, e1, beq_self_eq_true, show ((2 : Int) == 0) = false from rfl, show ((2 : Int) == 1) = false from rfl]
  · refine ⟨.tup [rq p.1, .tup [.int (1000000000000 + 1), .int 1]], w1, ?_, ⟨place_2 (c := D.tup) (.inr rfl) s1 (fun w => small_big) rfl, ⟨_, fun w => bare_2 (c := D.tup) (.inr rfl) (fun w => bare_q (n := 3) _) (fun w => bare_2 (n := 4) (c := D.tup) (.inr rfl) (fun w => bare_i _) (fun w => bare_i _)), rfl⟩, rfl, rfl, (tx_t (n := 2) (b := 35) (mem2 t1 (tx_t (n := 2) (b := 14) (mem2 (tx_i szb) (tx_i sz1)) (by simp))) (by simp)).up (by decide)⟩, h1⟩
    simp? only [Nat.reduceSub, Nat.reduceAdd, e1, beq_self_eq_true, show ((3 : Int) == 0) = false from rfl, show ((3 : Int) == 1) = false from rfl, show ((3 : Int) == 2) = false from rfl, p12]
  · refine ⟨.lst [.tup [.int 1, .int (1000000000000 + 1)], rq p.2], w1, ?_, ⟨place_2 (c := D.lst) (.inl rfl) (fun w => small_deep) s2 rfl, ⟨_, fun w => bare_2 (c := D.lst) (.inl rfl) (fun w => bare_2 (n := 4) (c := D.tup) (.inr rfl) (fun w => bare_i _) (fun w => bare_i _)) (fun w => bare_q (n := 3) _), rfl⟩, rfl, rfl, (tx_l (n := 2) (b := 35) (mem2 (tx_t (n := 2) (b := 14) (mem2 (tx_i sz1) (tx_i szb)) (by simp)) t2) (by simp)).up (by decide)⟩, h1⟩
    simp? only [Nat.reduceSub, Nat.reduceAdd, e1, beq_self_eq_true, show ((4 : Int) == 0) = false from rfl, show ((4 : Int) == 1) = false from rfl, show ((4 : Int) == 2) = false from rfl, show ((4 : Int) == 3) = false from rfl, p12]
  · obtain ⟨j, w2, e2, j0, j9, h2⟩ := take_w (many := 5) (k := 3) h1 (by decide) (by unfold Sz; decide) (by decide)
    obtain ⟨d, ed, od⟩ : ∃ d, itemAt [.non, .int 4, .tup [.int 3, .int 4], .tup [.tup [.int 2, .int 4], .tup [.int 1, .int 1]], .str "ab"] j = some d ∧ Odd d := by
      have : j = 0 ∨ j = 1 ∨ j = 2 ∨ j = 3 ∨ j = 4 := by omega
      rcases this with rfl | rfl | rfl | rfl | rfl
      · exact ⟨_, item0 _ _, ⟨fun w => by
          unfold F_is_place
          simp? only [Nat.reduceSub, Nat.reduceAdd], ⟨_, fun w => bare_n, rfl⟩, rfl, rfl, ⟨by decide +kernel, by decide +kernel, by unfold okS; decide +kernel⟩⟩⟩
      · exact ⟨_, item1 _ _ _, ⟨fun w => by
          unfold F_is_place
          simp? only [Nat.reduceSub, Nat.reduceAdd], ⟨_, fun w => bare_i _, rfl⟩, rfl, rfl, ⟨by decide +kernel, by decide +kernel, by unfold okS; decide +kernel⟩⟩⟩
      · exact ⟨_, item2 _ _ _ _, ⟨place_2 (c := D.tup) (.inr rfl) (fun w => small_i _) (fun w => small_i _) rfl, ⟨_, fun w => bare_2 (c := D.tup) (.inr rfl) (fun w => bare_i _) (fun w => bare_i _), rfl⟩, rfl, rfl, ⟨by decide +kernel, by decide +kernel, by unfold okS; decide +kernel⟩⟩⟩
      · exact ⟨_, item3 _ _ _ _ _, ⟨place_2 (c := D.tup) (.inr rfl) (y := true) (fun w => small_24) (fun w => small_t (q := 1) (by unfold Sm; decide)) rfl, ⟨_, fun w => bare_2 (c := D.tup) (.inr rfl) (fun w => bare_2 (n := 4) (c := D.tup) (.inr rfl) (fun w => bare_i _) (fun w => bare_i _)) (fun w => bare_2 (n := 4) (c := D.tup) (.inr rfl) (fun w => bare_i _) (fun w => bare_i _)), rfl⟩, rfl, rfl, ⟨by decide +kernel, by decide +kernel, by unfold okS; decide +kernel⟩⟩⟩
      · exact ⟨_, item4 _ _ _ _ _ _, ⟨fun w => by
          unfold F_is_place
          simp? only [Nat.reduceSub, Nat.reduceAdd], ⟨_, fun w => bare_s _, by decide +kernel⟩, by decide +kernel, rfl, ⟨by decide +kernel, by decide +kernel, by unfold okS; decide +kernel⟩⟩⟩
    refine ⟨d, w2, ?_, od, h2⟩
    simp? only [Nat.reduceSub, Nat.reduceAdd, e1, show ((5 : Int) == 0) = false from rfl, show ((5 : Int) == 1) = false from rfl, show ((5 : Int) == 2) = false from rfl, show ((5 : Int) == 3) = false from rfl, show ((5 : Int) == 4) = false from rfl, e2, ed]
theorem fs_rf : D.flat 60 (.str "refused") = true := by decide +kernel
theorem one_bad {d : D} (h : Odd d) : F__law_one [d] w = .ok (.str "refused") w := by
  obtain ⟨e, be, fe⟩ := h.b
  have a := h.a
  have ch : F_check_place [d] w = .ex 1 ["place"] [d] w := by
    unfold F_check_place
    simp? only [Nat.reduceSub, Nat.reduceAdd, a w]
  have x1 : ∀ w : Wd, xfK (some (.exc 1 ["place"] [d])) "place" w = .ok d w := fun w => xfK_v 1 _ _ _ rfl
  have eq : eqD e e w = .ok (.bl true) w := eq_same fe
  unfold F__law_one
  simp? only [Nat.reduceSub, Nat.reduceAdd, ch, tryK_ex (c := 1) _ _ _ _ _ (show (1 : Nat) ∈ [1] by decide), x1, be, eq]
theorem one_ok {d : D} {p : Pl} (h : PGood d p) : F__law_one [d] w = .ok (pl p) w := by
  have ch : F_check_place [d] w = .ok (pl p) w := by
    unfold F_check_place
    simp? only [Nat.reduceSub, Nat.reduceAdd, h.is, h.ix0, h.ix1]
  unfold F__law_one
  simp? only [Nat.reduceSub, Nat.reduceAdd, ch]
end K02

namespace K02
open PySem FL
variable {w : Wd}
/-! ### what is marked -/
abbrev mrow (q : Mp) : D := .lst [.bl q.p.isNone, q.d]
def MkOk (q : Mp) : Prop := (q.p = none → Odd q.d) ∧ ∀ p, q.p = some p → PlOk p ∧ q.d = pl p
theorem MkOk.nh {q : Mp} (h : MkOk q) : noHand (mrow q) = true := by
  obtain ⟨qp, d⟩ := q
  show (true && (noHand d && true)) = true
  cases qp with
  | none => rw [(h.1 rfl).n]; rfl
  | some p =>
    have e : d = pl p := (h.2 p rfl).2
    rw [e]; rfl
theorem noH_rows : ∀ M : List Mp, (∀ q ∈ M, MkOk q) → noHandL (M.map mrow) = true
  | [], _ => rfl
  | q :: M, h => by
    show (noHand (mrow q) && noHandL (M.map mrow)) = true
    rw [(h q (List.mem_cons_self ..)).nh, noH_rows M fun x hx => h x (List.mem_cons_of_mem _ hx)]
    rfl
theorem mk_good {p : Pl} (h : PlOk p) : MkOk ⟨some p, pl p⟩ := ⟨fun z => (nomatch z), fun q z => by cases z; exact ⟨h, rfl⟩⟩
theorem mk_odd {d : D} (h : Odd d) : MkOk ⟨none, d⟩ := ⟨fun _ => h, fun q z => (nomatch z)⟩
theorem erase_map {α β : Type} (f : α → β) : ∀ (l : List α) (k : Nat), (l.map f).eraseIdx k = (l.eraseIdx k).map f
  | [], _ => rfl
  | _ :: _, 0 => rfl
  | a :: l, k + 1 => by
    show f a :: (l.map f).eraseIdx k = f a :: (l.eraseIdx k).map f
    rw [erase_map f l k]
theorem popAt_v {xs : List D} {k : Nat} (hk : k < xs.length) (hl : xs.length < 10000) : popAtF xs [.int (k : Int)] = some (xs.eraseIdx k) := by
  simp only [popAtF]
  rw [if_pos (by constructor <;> omega), ixP_in (by omega) (by omega)]
  rfl
theorem markL {ps : List Pl} (hp : ∀ p ∈ ps, PlOk p) (p2 : 2 ≤ ps.length) (p6 : ps.length ≤ 6) {s0 s8 s9 s10 s11 s12 s13 s14 s15 s16 s17 s18 s19 s20 s21 : Slot} : ∀ (m n : Nat) (M : List Mp) (s4 s5 s6 s7 : Slot) (w : Wd), HandI w → (∀ q ∈ M, MkOk q) → m ≤ M.length → M.length + m ≤ 8 → ∃ (M' : List Mp) (u4 u5 u6 u7 : Slot) (w' : Wd), HandI w' ∧ (∀ q ∈ M', MkOk q) ∧ M'.length ≤ 8 ∧ forL (gN 4) B_law_0 (rng n m) [s0, .val .hand, .val (.lst (ps.map pl)), .own (M.map mrow), s4, s5, s6, s7, s8, s9, s10, s11, s12, s13, s14, s15, s16, s17, s18, s19, s20, s21] w
    = .nx [s0, .val .hand, .val (.lst (ps.map pl)), .own (M'.map mrow), u4, u5, u6, u7, s8, s9, s10, s11, s12, s13, s14, s15, s16, s17, s18, s19, s20, s21] w'
  | 0, n, M, s4, s5, s6, s7, w, hi, hM, _, h8 => ⟨M, s4, s5, s6, s7, w, hi, hM, by omega, rfl⟩
  | m + 1, n, M, s4, s5, s6, s7, w, hi, hM, hm, h8 => by
    obtain ⟨k, w1, e1, k0, k9, h1⟩ := take_w (many := (M.length : Int)) (k := 4) hi (by omega) (sz_of (by omega) (by omega)) (by decide)
    obtain ⟨c, w2, e2, c0, c9, h2⟩ := take_w (many := 3) (k := 2) h1 (by decide) (by unfold Sz; decide) (by decide)
    have nh := noH_rows M hM
    have bl := fun (ρ : FL.Env) (h : ρ[3]? = some (.own (M.map mrow))) => bor_len (ρ := ρ) (w := w) 3 h nh
    rw [List.length_map] at bl
    obtain ⟨k, rfl⟩ : ∃ j : Nat, k = (j : Int) := ⟨k.toNat, by omega⟩
    have hk : k < M.length := by omega
    have : c = 0 ∨ c = 1 ∨ c = 2 := by omega
    show ∃ (M' : List Mp) (u4 u5 u6 u7 : Slot) (w' : Wd), HandI w' ∧ (∀ q ∈ M', MkOk q) ∧ M'.length ≤ 8 ∧ forL (gN 4) B_law_0 (.int (n : Int) :: rng (n + 1) m) _ _ = _
    rcases this with rfl | rfl | rfl
    · have e0 : itemAt (ps.map pl) 0 = some (pl (ps[0]'(by omega))) := itemMap (f := pl) (k := 0) (List.getElem?_eq_getElem (by omega))
      obtain ⟨d, w3, e3, od, h3⟩ := odd_w (hp _ (List.getElem_mem (show 0 < ps.length by omega))) h2
      have im : insF (M.map mrow) [.int (k : Int), .lst [.bl true, d]] = some ((M.take k ++ [(⟨none, d⟩ : Mp)] ++ M.drop k).map mrow) := by
        rw [ins_v (by omega) (by rw [List.length_map]; exact lt_line (by omega)), List.map_append, List.map_append, List.map_take, List.map_drop]
        rfl
      have ln : (M.take k ++ [(⟨none, d⟩ : Mp)] ++ M.drop k).length = M.length + 1 := by
        rw [List.length_append, List.length_append, List.length_take, List.length_drop, List.length_singleton]
        omega
      have ok' : ∀ q ∈ M.take k ++ [(⟨none, d⟩ : Mp)] ++ M.drop k, MkOk q := fun q hq => by
        rcases List.mem_append.mp hq with hq | hq
        · rcases List.mem_append.mp hq with hq | hq
          · exact hM q (List.mem_of_mem_take hq)
          · rw [List.mem_singleton.mp hq]; exact mk_odd od
        · exact hM q (List.mem_of_mem_drop hq)
      have ip := od.a
      have on := fun w : Wd => one_bad (w := w) od
      have nr : ∀ w : Wd, neD (.str "refused") (.str "refused") w = .ok (.bl false) w := fun w => ne_same fs_rf
      obtain ⟨M', u4, u5, u6, u7, w', hi', hM', h8', e⟩ := markL hp p2 p6 (s0 := s0) (s8 := s8) (s9 := s9) (s10 := s10) (s11 := s11) (s12 := s12) (s13 := s13) (s14 := s14) (s15 := s15) (s16 := s16) (s17 := s17) (s18 := s18) (s19 := s19) (s20 := s20) (s21 := s21) m (n + 1) _ (.val (.int (n : Int))) (.val (.int (k : Int))) (.val (.int 0)) (.val d) w3 h3 ok' (by omega) (by omega)
      refine ⟨M', u4, u5, u6, u7, w', hi', hM', h8', ?_⟩
      simp? only [Nat.reduceSub, Nat.reduceAdd, B_law_0_w, ↓bl, e1, e2, beq_self_eq_true, e0, e3, ip w3, on, nr, show decide (false = false) = true from rfl, mutK_v 3 insF im]
      exact e
    · obtain ⟨j, w3, e3, j0, j9, h3⟩ := take_w (many := (ps.length : Int)) (k := 3) h2 (by omega) (sz_of (by omega) (by omega)) (by decide)
      obtain ⟨j, rfl⟩ : ∃ i : Nat, j = (i : Int) := ⟨j.toNat, by omega⟩
      have hj : j < ps.length := by omega
      have ej : itemAt (ps.map pl) (j : Int) = some (pl ps[j]) := itemMap (f := pl) (List.getElem?_eq_getElem hj)
      have pj := hp _ (List.getElem_mem hj)
      have la : (M.map mrow).length < line := by rw [List.length_map]; exact lt_line (by omega)
      have em : M.map mrow ++ [.lst [.bl false, pl ps[j]]] = (M ++ [(⟨some ps[j], pl ps[j]⟩ : Mp)]).map mrow := by rw [List.map_append]; rfl
      have ok' : ∀ q ∈ M ++ [(⟨some ps[j], pl ps[j]⟩ : Mp)], MkOk q := fun q hq => by
        rcases List.mem_append.mp hq with hq | hq
        · exact hM q hq
        · rw [List.mem_singleton.mp hq]; exact mk_good pj
      obtain ⟨M', u4, u5, u6, u7, w', hi', hM', h8', e⟩ := markL hp p2 p6 (s0 := s0) (s8 := s8) (s9 := s9) (s10 := s10) (s11 := s11) (s12 := s12) (s13 := s13) (s14 := s14) (s15 := s15) (s16 := s16) (s17 := s17) (s18 := s18) (s19 := s19) (s20 := s20) (s21 := s21) m (n + 1) _ (.val (.int (n : Int))) (.val (.int (k : Int))) (.val (.int 1)) s7 w3 h3 ok' (by rw [List.length_append, List.length_singleton]; omega) (by rw [List.length_append, List.length_singleton]; omega)
      refine ⟨M', u4, u5, u6, u7, w', hi', hM', h8', ?_⟩
      simp? only [Nat.reduceSub, Nat.reduceAdd, B_law_0_w, ↓bl, e1, e2, beq_self_eq_true, show ((1 : Int) == 0) = false from rfl, List.length_map, e3, ej, appK_v 3 _ la, em]
      exact e
    · have pm : popAtF (M.map mrow) [.int (k : Int)] = some ((M.eraseIdx k).map mrow) := by
        rw [popAt_v (by rw [List.length_map]; omega) (by rw [List.length_map]; omega), erase_map]
      have ln : (M.eraseIdx k).length = M.length - 1 := List.length_eraseIdx_of_lt hk
      have ok' : ∀ q ∈ M.eraseIdx k, MkOk q := fun q hq => hM q (List.mem_of_mem_eraseIdx hq)
      obtain ⟨M', u4, u5, u6, u7, w', hi', hM', h8', e⟩ := markL hp p2 p6 (s0 := s0) (s8 := s8) (s9 := s9) (s10 := s10) (s11 := s11) (s12 := s12) (s13 := s13) (s14 := s14) (s15 := s15) (s16 := s16) (s17 := s17) (s18 := s18) (s19 := s19) (s20 := s20) (s21 := s21) m (n + 1) _ (.val (.int (n : Int))) (.val (.int (k : Int))) (.val (.int 2)) s7 w2 h2 ok' (by omega) (by omega)
      refine ⟨M', u4, u5, u6, u7, w', hi', hM', h8', ?_⟩
      simp? only [Nat.reduceSub, Nat.reduceAdd, B_law_0_w, ↓bl, e1, e2, show ((2 : Int) == 0) = false from rfl, show ((2 : Int) == 1) = false from rfl, mutK_v 3 popAtF pm]
      exact e
/-! ### what is given -/
structure GvOk (q : Mp) : Prop where
  b : MpB q
  f : D.flat 59 q.d = true
  t : Tx1 300 q.d
theorem gv_t {p : Pl} (h : PlOk p) : GvOk ⟨some p, pl p⟩ := ⟨⟨fun z => (nomatch z), fun q z => by cases z; exact ⟨h, .inl rfl⟩⟩, rfl, (tx_pl h).up (by decide)⟩
theorem gv_l {p : Pl} (h : PlOk p) : GvOk ⟨some p, pll p⟩ := ⟨⟨fun z => (nomatch z), fun q z => by cases z; exact ⟨h, .inr rfl⟩⟩, rfl, (tx_pll h).up (by decide)⟩
theorem gv_o {d : D} (h : Odd d) : GvOk ⟨none, d⟩ := ⟨⟨fun _ => h.a, fun q z => (nomatch z)⟩, h.f, h.t⟩
theorem giveL {ρ : FL.Env} (hr : ρ.length = 22) (r1 : ρ[1]? = some (.val .hand)) : ∀ (M : List Mp) (w : Wd), HandI w → (∀ q ∈ M, MkOk q) → ∃ (G : List Mp) (w' : Wd), lcL (gN 21) tYes (eIf (tOr (tTru (eBin ixD (eVar 21) (eC (.int 0)))) (tTru (eCall F__law_take [(eVar 1), (eC (.int 2))]))) (eBin ixD (eVar 21) (eC (.int 1))) (eCall (un1 listD) [(eBin ixD (eVar 21) (eC (.int 1)))])) ρ (M.map mrow) w = .ok (G.map Mp.d) w' ∧ G.map Mp.p = M.map Mp.p ∧ (∀ q ∈ G, GvOk q) ∧ HandI w'
  | [], w, hi, _ => ⟨[], w, rfl, rfl, (fun _ h => by cases h), hi⟩
  | ⟨qp, d⟩ :: M, w, hi, hM => by
    have h0 := hM ⟨qp, d⟩ (List.mem_cons_self ..)
    have hM' : ∀ q ∈ M, MkOk q := fun q hq => hM q (List.mem_cons_of_mem _ hq)
    have g21 : ∀ x : D, (ρ.set 21 (.val x))[21]? = some (.val x) := fun x => by rw [List.getElem?_set_self (by omega)]
    have g1 : ∀ x : D, (ρ.set 21 (.val x))[1]? = some (.val .hand) := fun x => by rw [List.getElem?_set_ne (by decide)]; exact r1
    have fin : ∀ (q : Mp) (w1 : Wd) (G : List Mp), GvOk q → (∀ x ∈ G, GvOk x) → ∀ x ∈ q :: G, GvOk x := fun q w1 G hq hG x hx => by
      rcases List.mem_cons.mp hx with rfl | hx
      · exact hq
      · exact hG x hx
    rw [List.map_cons, lcN]
    cases qp with
    | none =>
      have od := h0.1 rfl
      obtain ⟨G, w', e, ep, eG, hi'⟩ := giveL hr r1 M w hi hM'
      refine ⟨⟨none, d⟩ :: G, w', ?_, by rw [List.map_cons, List.map_cons, ep], fin _ w G (gv_o od) eG, hi'⟩
      simp? only [Nat.reduceSub, Nat.reduceAdd, g21, show (none : Option Pl).isNone = true from rfl, e]
      rfl
    | some p =>
      obtain ⟨okp, ed⟩ := h0.2 p rfl
      have ed : d = pl p := ed
      subst ed
      obtain ⟨k, w1, e1, k0, k9, h1⟩ := take_w (many := 2) (k := 2) hi (by decide) (by unfold Sz; decide) (by decide)
      obtain ⟨G, w', e, ep, eG, hi'⟩ := giveL hr r1 M w1 h1 hM'
      by_cases hk : k = 0
      · subst hk
        refine ⟨⟨some p, pll p⟩ :: G, w', ?_, by rw [List.map_cons, List.map_cons, ep], fin _ w G (gv_l okp) eG, hi'⟩
        simp? only [Nat.reduceSub, Nat.reduceAdd, g21, g1, show (some p).isNone = false from rfl, e1, show ((0 : Int) != 0) = false from rfl, e]
        rfl
      · have kb : (k != 0) = true := by simpa using hk
        refine ⟨⟨some p, pl p⟩ :: G, w', ?_, by rw [List.map_cons, List.map_cons, ep], fin _ w G (gv_t okp) eG, hi'⟩
        simp? only [Nat.reduceSub, Nat.reduceAdd, g21, g1, show (some p).isNone = false from rfl, e1, kb, e]
        rfl
theorem repr_w {G : List Mp} (h : ∀ q ∈ G, GvOk q) (hl : G.length ≤ 8) : ∀ w, reprL [.lst (G.map Mp.d)] w = .ok (.str (D.lst (G.map Mp.d)).py.shown) w := by
  have t := tx_l (b := 300) (n := 8) (ds := G.map Mp.d) (fun d hd => by
    obtain ⟨q, hq, rfl⟩ := List.mem_map.mp hd
    exact (h q hq).t) (by rw [List.length_map]; exact hl)
  exact fun w => reprL_l (show D.flatL 59 (G.map Mp.d) = true from flatL_map G fun q hq => (h q hq).f) t.s (by rw [sizeLine_eq]; exact Nat.le_trans t.l (by decide))
theorem repr_ok {G : List Mp} (h : ∀ q ∈ G, GvOk q) : neD (.str (D.lst (G.map Mp.d)).py.shown) (.str (D.lst (G.map Mp.d)).py.shown) w = .ok (.bl false) w := by
  have t := tx_l (b := 300) (n := G.length) (ds := G.map Mp.d) (fun d hd => by
    obtain ⟨q, hq, rfl⟩ := List.mem_map.mp hd
    exact (h q hq).t) (by rw [List.length_map]; exact Nat.le_refl _)
  exact ne_same (by unfold D.flat; exact t.o)
/-! ### due, by the law -/
def duR (r : Res) (k : List Pl → SR) (w : Wd) : SR := match r with
  | .ok ps => k ps
  | .bad n s => .rt (.tup [.int (n : Int), .str s]) w
theorem dueL {M : List Mp} (hM : ∀ q ∈ M, MkOk q) : ∀ (m n : Nat) (kn : List Pl) (s2 : Slot), n + m = M.length → kn.length + m < 10000 → ∃ (u2 : Slot), forL (gN 2) B__law_due_0 (rng n m) [.val (.lst (M.map mrow)), .own (kn.map pl), s2] w
    = duR (due n kn ((M.drop n).map Mp.p)) (fun ps => .nx [.val (.lst (M.map mrow)), .own (ps.map pl), u2] w) w
  | 0, n, kn, s2, hm, _ => ⟨s2, by rw [List.drop_of_length_le (by omega)]; rfl⟩
  | m + 1, n, kn, s2, hm, hl => by
    have hn : n < M.length := by omega
    have e1 := List.getElem?_eq_getElem hn
    have okq := hM _ (List.getElem_mem hn)
    rw [List.drop_eq_getElem_cons hn, List.map_cons]
    generalize M[n] = q at e1 okq
    have it : itemAt (M.map mrow) (n : Int) = some (mrow q) := itemMap e1
    obtain ⟨qp, d⟩ := q
    have nh : noHand (.lst (M.map mrow)) = true := noH_rows M hM
    show ∃ (u2 : Slot), forL (gN 2) B__law_due_0 (.int (n : Int) :: rng (n + 1) m) _ _ = _
    cases qp with
    | none =>
      refine ⟨.none, ?_⟩
      simp? only [Nat.reduceSub, Nat.reduceAdd, B__law_due_0_w, it, show (none : Option Pl).isNone = true from rfl]
      rfl
    | some p =>
      have ed : d = pl p := (okq.2 p rfl).2
      subst ed
      have ii : ∀ w : Wd, inD (.tup [rq p.1, rq p.2]) (.lst (kn.map pl)) none = .ok (.bl (decide (p ∈ kn))) none := fun _ => in_pl p kn
      by_cases hp : p ∈ kn
      · refine ⟨.none, ?_⟩
        have hd : due n kn (some p :: (M.drop (n + 1)).map Mp.p) = .bad n "twice" := if_pos hp
        rw [hd]
        simp? only [Nat.reduceSub, Nat.reduceAdd, B__law_due_0_w, it, show (some p).isNone = false from rfl, tBor_w, borE_c, borE_n, borS_v nh, borS_o (noH_pl kn), borS_v (d := .int (n : Int)) rfl, ii none, hp, decide_true, borT_v]
        rfl
      · have ll : (kn.map pl).length < line := by rw [List.length_map]; unfold line; omega
        have em : kn.map pl ++ [.tup [rq p.1, rq p.2]] = (kn ++ [p]).map pl := by rw [List.map_append]; rfl
        have hd : due n kn (some p :: (M.drop (n + 1)).map Mp.p) = due (n + 1) (kn ++ [p]) ((M.drop (n + 1)).map Mp.p) := if_neg hp
        obtain ⟨u2, e⟩ := dueL hM m (n + 1) (kn ++ [p]) (.val (.int (n : Int))) (by omega) (by rw [List.length_append, List.length_singleton]; omega)
        refine ⟨u2, ?_⟩
        rw [hd]
        simp? only [Nat.reduceSub, Nat.reduceAdd, B__law_due_0_w, it, show (some p).isNone = false from rfl, tBor_w, borE_c, borE_n, borS_v nh, borS_o (noH_pl kn), borS_v (d := .int (n : Int)) rfl, ii none, hp, decide_false, borT_v, appK_v 1 _ ll, em]
        exact e
theorem due_w {M : List Mp} (hM : ∀ q ∈ M, MkOk q) (h8 : M.length ≤ 8) : F__law_due [.lst (M.map mrow)] w = .ok (dueAll (M.map Mp.p)).d w := by
  have rg : ∀ w : Wd, rangeM (.int 0) (.int (M.length : Int)) w = .ok (rng 0 M.length) w := fun w => range0 _ (by omega)
  unfold F__law_due
  by_cases h2 : 2 ≤ M.length
  · have z2 : (2 : Int) ≤ (M.length : Int) := by omega
    by_cases h6 : M.length ≤ 6
    · have z6 : (M.length : Int) ≤ 6 := by omega
      have e0 : dueAll (M.map Mp.p) = due 0 [] (M.map Mp.p) := if_pos (by rw [List.length_map]; exact ⟨h2, h6⟩)
      obtain ⟨u2, e⟩ := dueL (w := w) hM M.length 0 [] .none (by omega) (by rw [List.length_nil]; omega)
      rw [List.map_nil, List.drop_zero] at e
      rw [e0]
      cases hd : due 0 [] (M.map Mp.p) with
      | bad n s =>
        rw [hd] at e
        simp? only [Nat.reduceSub, Nat.reduceAdd, List.length_map, z2, z6, decide_true, rg, e, duR]
        rfl
      | ok ps =>
        rw [hd] at e
        simp? only [Nat.reduceSub, Nat.reduceAdd, List.length_map, z2, z6, decide_true, rg, e, duR]
        rfl
    · have z6 : ¬ (M.length : Int) ≤ 6 := by omega
      have e0 : dueAll (M.map Mp.p) = .bad 0 "many" := if_neg (by rw [List.length_map]; omega)
      rw [e0]
      simp? only [Nat.reduceSub, Nat.reduceAdd, List.length_map, z2, z6, decide_true, decide_false]
      rfl
  · have z2 : ¬ (2 : Int) ≤ (M.length : Int) := by omega
    have e0 : dueAll (M.map Mp.p) = .bad 0 "many" := if_neg (by rw [List.length_map]; omega)
    rw [e0]
    simp? only [Nat.reduceSub, Nat.reduceAdd, List.length_map, z2, decide_false]
    rfl
theorem fs_pl : D.flat 59 (.str "place") = true := by decide +kernel
theorem fs_tw : D.flat 59 (.str "twice") = true := by decide +kernel
theorem fs_mn : D.flat 59 (.str "many") = true := by decide +kernel
theorem res_b {n : Nat} {s : Str} (h : D.flat 59 (.str s) = true) : D.flat 60 (Res.bad n s).d = true := by
  show (true && (D.flat 59 (.str s) && true)) = true
  rw [h]; rfl
theorem due_flat : ∀ (xs : List (Option Pl)) (n : Nat) (kn : List Pl), D.flat 60 (due n kn xs).d = true
  | [], n, kn => show D.flatL 59 (kn.map pl) = true from flatL_map kn fun _ _ => rfl
  | none :: r, n, kn => res_b fs_pl
  | some p :: r, n, kn => by
    unfold due
    split
    · exact res_b fs_tw
    · exact due_flat r (n + 1) _
theorem dueAll_flat (xs : List (Option Pl)) : D.flat 60 (dueAll xs).d = true := by
  unfold dueAll
  split
  · exact due_flat xs 0 []
  · exact res_b fs_mn
end K02

namespace K02
open PySem FL
variable {w : Wd}
/-! ### cross products -/
def cross (a b c : Pl) : Rat := (b.1 - a.1) * (c.2 - a.2) - (b.2 - a.2) * (c.1 - a.1)
theorem cross_w {a b c : Pl} (ha : PlOk a) (hb : PlOk b) (hc : PlOk c) : F_cross_of [pl a, pl b, pl c] w = .ok (rq (cross a b c)) w := by
  have m1 := hb.1.sz.sub ha.1.sz
  have m2 := hc.2.sz.sub ha.2.sz
  have m3 := hb.2.sz.sub ha.2.sz
  have m4 := hc.1.sz.sub ha.1.sz
  have e1 := fun w : Wd => minus_q (w := w) hb.1.sz ha.1.sz (by decide)
  have e2 := fun w : Wd => minus_q (w := w) hc.2.sz ha.2.sz (by decide)
  have e3 := fun w : Wd => minus_q (w := w) hb.2.sz ha.2.sz (by decide)
  have e4 := fun w : Wd => minus_q (w := w) hc.1.sz ha.1.sz (by decide)
  have t1 := fun w : Wd => times_q (w := w) m1 m2 (by decide)
  have t2 := fun w : Wd => times_q (w := w) m3 m4 (by decide)
  have e5 := fun w : Wd => minus_q (w := w) (m1.mul m2) (m3.mul m4) (by decide)
  unfold F_cross_of
  simp? only [Nat.reduceSub, Nat.reduceAdd, ↓e1, ↓e2, ↓e3, ↓e4, ↓t1, ↓t2, ↓e5]
  rfl
theorem lcross_w {a b c : Pl} (ha : PlOk a) (hb : PlOk b) (hc : PlOk c) : F__law_cross [pl a, pl b, pl c] w = .ok (rq (cross a b c)) w := by
  have m1 := hb.1.sz.sub ha.1.sz
  have m2 := hc.2.sz.sub ha.2.sz
  have m3 := hb.2.sz.sub ha.2.sz
  have m4 := hc.1.sz.sub ha.1.sz
  have e1 := fun w : Wd => lminus_q (w := w) hb.1.sz ha.1.sz (by decide)
  have e2 := fun w : Wd => lminus_q (w := w) hc.2.sz ha.2.sz (by decide)
  have e3 := fun w : Wd => lminus_q (w := w) hb.2.sz ha.2.sz (by decide)
  have e4 := fun w : Wd => lminus_q (w := w) hc.1.sz ha.1.sz (by decide)
  have t1 := fun w : Wd => ltimes_q (w := w) m1 m2 (by decide)
  have t2 := fun w : Wd => ltimes_q (w := w) m3 m4 (by decide)
  have e5 := fun w : Wd => lminus_q (w := w) (m1.mul m2) (m3.mul m4) (by decide)
  unfold F__law_cross
  simp? only [Nat.reduceSub, Nat.reduceAdd, ↓e1, ↓e2, ↓e3, ↓e4, ↓t1, ↓t2, ↓e5]
  rfl
theorem eq0 (x : Rat) (w : Wd) : eqD (rq x) (.tup [.int 0, .int 1]) w = .ok (.bl (decide (x = 0))) w := eq_rq x 0
theorem ne0 (x : Rat) (w : Wd) : neD (rq x) (.tup [.int 0, .int 1]) w = .ok (.bl (!decide (x = 0))) w := ne_rq x 0
theorem ne_same_q (x : Rat) (w : Wd) : neD (rq x) (rq x) w = .ok (.bl false) w := ne_same rfl
theorem tup_rq (q : Rat) : F__law_tuples 6 [rq q] w = .ok (.bl true) w := by
  have one : ∀ (i : Int) (w : Wd), F__law_tuples 5 [.int i] w = .ok (.bl true) w := fun i w => rfl
  have lc : ∀ ρ : FL.Env, ρ.length = 2 → lcL (gN 1) (tNot (tTru (eCall (F__law_tuples 5) [(eVar 1)]))) (eC (.int 1)) ρ ([q.num, (q.den : Int)].map D.int) w = .ok [] w := fun ρ hr => lcNone (f := D.int) 1 _ _ _ fun a _ => by
    have g : (ρ.set 1 (.val (.int a)))[1]? = some (.val (.int a)) := by rw [List.getElem?_set_self (by omega)]
    simp? only [Nat.reduceSub, Nat.reduceAdd, g, one a w]
  have l2 := lc [.val (rq q), .none] rfl
  have l3 : lcL (gN 1) (tNot (tTru (eCall (F__law_tuples 5) [(eVar 1)]))) (eC (.int 1)) [.val (rq q), .none] [.int q.num, .int (q.den : Int)] w = .ok [] w := l2
  have ll : ([D.int q.num, .int (q.den : Int)]).length ≤ line := le_line (by simp)
  show callF 2 _ _ _ = _
  simp? only [Nat.reduceSub, Nat.reduceAdd, lcM_v _ _ _ _ ll, l3, List.isEmpty_nil]
theorem tuples_c {n : Nat} {ds : List D} (h : ∀ d ∈ ds, ∀ w : Wd, F__law_tuples n [d] w = .ok (.bl true) w) (hl : ds.length ≤ 1000) : F__law_tuples (n + 1) [.tup ds] w = .ok (.bl true) w := by
  have lc : ∀ ρ : FL.Env, ρ.length = 2 → lcL (gN 1) (tNot (tTru (eCall (F__law_tuples n) [(eVar 1)]))) (eC (.int 1)) ρ ds w = .ok [] w := fun ρ hr => by
    have := lcNone (ρ := ρ) (w := w) (f := fun d : D => d) 1 (tNot (tTru (eCall (F__law_tuples n) [(eVar 1)]))) (eC (.int 1)) ds fun a ha => by
      have g : (ρ.set 1 (.val a))[1]? = some (.val a) := by rw [List.getElem?_set_self (by omega)]
      simp? only [Nat.reduceSub, Nat.reduceAdd, g, h a ha w]
    simpa using this
  have l2 := lc [.val (.tup ds), .none] rfl
  show callF 2 _ _ _ = _
  simp? only [Nat.reduceSub, Nat.reduceAdd, lcM_v _ _ _ _ (le_line hl), l2, List.isEmpty_nil]
theorem tup_i {n : Nat} (i : Int) : F__law_tuples (n + 1) [.int i] w = .ok (.bl true) w := by
  show callF 2 _ _ _ = _
  simp? only [Nat.reduceSub, Nat.reduceAdd]
theorem tup_pls (ps : List Pl) (hl : ps.length ≤ 100) : F__law_tuples 6 [.tup (ps.map pl)] w = .ok (.bl true) w := by
  refine tuples_c (n := 5) (fun d hd w => ?_) (by rw [List.length_map]; omega)
  obtain ⟨p, _, rfl⟩ := List.mem_map.mp hd
  refine tuples_c (n := 4) (mem2 (fun w => ?_) (fun w => ?_)) (by simp)
  · exact tuples_c (n := 3) (mem2 (fun w => tup_i _) (fun w => tup_i _)) (by simp)
  · exact tuples_c (n := 3) (mem2 (fun w => tup_i _) (fun w => tup_i _)) (by simp)
/-! ### each place -/
section
variable {ps : List Pl}
theorem placeL {by_ : Pl} {sz : Rat} (hb : PlOk by_) (hs : Sm sz) {s0 s1 s2 s3 s4 s5 s6 s7 s8 s9 s10 s14 s15 s16 s17 s18 s19 s20 s21 : Slot} : ∀ (qs : List Pl) (s13 : Slot), (∀ p ∈ qs, PlOk p) → ∃ u13, forL (gN 13) B_law_1 (qs.map pl) [s0, s1, s2, s3, s4, s5, s6, s7, s8, s9, s10, .val (pl by_), .val (rq sz), s13, s14, s15, s16, s17, s18, s19, s20, s21] w
    = .nx [s0, s1, s2, s3, s4, s5, s6, s7, s8, s9, s10, .val (pl by_), .val (rq sz), u13, s14, s15, s16, s17, s18, s19, s20, s21] w
  | [], s13, _ => ⟨s13, rfl⟩
  | p :: qs, s13, h => by
    have hp := h p (List.mem_cons_self ..)
    obtain ⟨u13, e⟩ := placeL hb hs (s0 := s0) (s1 := s1) (s2 := s2) (s3 := s3) (s4 := s4) (s5 := s5) (s6 := s6) (s7 := s7) (s8 := s8) (s9 := s9) (s10 := s10) (s14 := s14) (s15 := s15) (s16 := s16) (s17 := s17) (s18 := s18) (s19 := s19) (s20 := s20) (s21 := s21) qs (.val (pl p)) fun x hx => h x (List.mem_cons_of_mem _ hx)
    refine ⟨u13, ?_⟩
    have gt : PGood (pl p) p := ⟨hp, .inl rfl⟩
    have gl : PGood (pll p) p := ⟨hp, .inr rfl⟩
    have i1 : ∀ w : Wd, F_is_place [.tup [.tup [.int p.1.num, .int (p.1.den : Int)], .tup [.int p.2.num, .int (p.2.den : Int)]]] w = .ok (.bl true) w := fun w => gt.is
    have i2 : ∀ w : Wd, F_is_place [.lst [.tup [.int p.1.num, .int (p.1.den : Int)], .tup [.int p.2.num, .int (p.2.den : Int)]]] w = .ok (.bl true) w := fun w => gl.is
    have o1 : ∀ w : Wd, F__law_one [.lst [.tup [.int p.1.num, .int (p.1.den : Int)], .tup [.int p.2.num, .int (p.2.den : Int)]]] w = .ok (pl p) w := fun w => one_ok gl
    have nq : ∀ (a b c d : Int) (w : Wd), neD (.tup [.tup [.int a, .int b], .tup [.int c, .int d]]) (.tup [.tup [.int a, .int b], .tup [.int c, .int d]]) w = .ok (.bl false) w := fun a b c d w => ne_same rfl
    have p1 := fun w : Wd => plus_q (w := w) hp.1.sz hb.1.sz (by decide)
    have p2 := fun w : Wd => plus_q (w := w) hp.2.sz hb.2.sz (by decide)
    have l1 := fun w : Wd => lplus_q (w := w) hp.1.sz hb.1.sz (by decide)
    have l2 := fun w : Wd => lplus_q (w := w) hp.2.sz hb.2.sz (by decide)
    have t1 := fun w : Wd => times_q (w := w) hp.1.sz hs.sz (by decide)
    have t2 := fun w : Wd => times_q (w := w) hp.2.sz hs.sz (by decide)
    have k1 := fun w : Wd => ltimes_q (w := w) hp.1.sz hs.sz (by decide)
    have k2 := fun w : Wd => ltimes_q (w := w) hp.2.sz hs.sz (by decide)
    have sh : ∀ w : Wd, F_shift_place [pl p, pl by_] w = .ok (pl (p.1 + by_.1, p.2 + by_.2)) w := fun w => by
      unfold F_shift_place
      simp? only [Nat.reduceSub, Nat.reduceAdd, ↓p1, ↓p2]
    have st : ∀ w : Wd, F_stretch_place [pl p, rq sz] w = .ok (pl (p.1 * sz, p.2 * sz)) w := fun w => by
      unfold F_stretch_place
      simp? only [Nat.reduceSub, Nat.reduceAdd, ↓t1, ↓t2]
    have tu : ∀ w : Wd, F_turn_place [pl p] w = .ok (.tup [.tup [.int (-p.2.num), .int (p.2.den : Int)], rq p.1]) w := fun w => by
      unfold F_turn_place F_negative
      simp? only [Nat.reduceSub, Nat.reduceAdd]
    have mi : ∀ w : Wd, F_mirror_place [pl p] w = .ok (.tup [.tup [.int (-p.1.num), .int (p.1.den : Int)], rq p.2]) w := fun w => by
      unfold F_mirror_place F_negative
      simp? only [Nat.reduceSub, Nat.reduceAdd]
    rw [List.map_cons]
    simp? only [Nat.reduceSub, Nat.reduceAdd, B_law_1_w, ↓i1, ↓i2, ↓o1, show decide (true = true) = true from rfl, nq, ↓sh, ↓st, ↓tu, ↓mi, ↓l1, ↓l2, ↓k1, ↓k2]
    exact e
/-! ### in a row -/
def allX (p0 : Pl) (ps qs : List Pl) : Bool := qs.all fun a => ps.all fun b => decide (cross p0 a b = 0)
theorem twoL {p0 one : Pl} (h0 : PlOk p0) (h1 : PlOk one) (hz : ∃ r, ps = p0 :: r) {s0 s1 s3 s4 s5 s6 s7 s8 s9 s10 s11 s12 s13 s18 s19 s20 s21 : Slot} : ∀ (qs : List Pl) (b : Bool) (s16 s17 : Slot), (∀ p ∈ qs, PlOk p) → ∃ u16 u17, forL (gN 16) B_law_2 (qs.map pl) [s0, s1, .val (.lst (ps.map pl)), s3, s4, s5, s6, s7, s8, s9, s10, s11, s12, s13, .val (.bl b), .val (pl one), s16, s17, s18, s19, s20, s21] w
    = .nx [s0, s1, .val (.lst (ps.map pl)), s3, s4, s5, s6, s7, s8, s9, s10, s11, s12, s13, .val (.bl (b && qs.all fun x => decide (cross p0 one x = 0))), .val (pl one), u16, u17, s18, s19, s20, s21] w
  | [], b, s16, s17, _ => ⟨s16, s17, by rw [List.all_nil, Bool.and_true]; rfl⟩
  | p :: qs, b, s16, s17, h => by
    have hp := h p (List.mem_cons_self ..)
    have e0 : itemAt (ps.map pl) 0 = some (pl p0) := by obtain ⟨r, rfl⟩ := hz; exact item0 _ _
    have c1 := fun w : Wd => lcross_w (w := w) h0 h1 hp
    have c2 := fun w : Wd => cross_w (w := w) h0 h1 hp
    have c3 := fun w : Wd => cross_w (w := w) hp h1 h0
    have tp := fun w : Wd => tup_rq (w := w) (cross p one p0)
    have ns := fun w : Wd => ne_same_q (cross p0 one p) w
    have ez := fun w : Wd => eq0 (cross p0 one p) w
    obtain ⟨u16, u17, e⟩ := twoL h0 h1 hz (s0 := s0) (s1 := s1) (s3 := s3) (s4 := s4) (s5 := s5) (s6 := s6) (s7 := s7) (s8 := s8) (s9 := s9) (s10 := s10) (s11 := s11) (s12 := s12) (s13 := s13) (s18 := s18) (s19 := s19) (s20 := s20) (s21 := s21) qs (b && decide (cross p0 one p = 0)) (.val (pl p)) (.val (rq (cross p0 one p))) fun x hx => h x (List.mem_cons_of_mem _ hx)
    refine ⟨u16, u17, ?_⟩
    rw [List.map_cons, List.all_cons, ← Bool.and_assoc]
    simp? only [Nat.reduceSub, Nat.reduceAdd, B_law_2_w, e0, ↓c1, ↓c2, ↓c3, ↓tp, ↓ns, ↓ez, andE_b, andB_v]
    exact e
theorem oneL {p0 : Pl} (h0 : PlOk p0) (hz : ∃ r, ps = p0 :: r) (hp : ∀ p ∈ ps, PlOk p) {s0 s1 s3 s4 s5 s6 s7 s8 s9 s10 s11 s12 s13 s18 s19 s20 s21 : Slot} : ∀ (qs : List Pl) (b : Bool) (s15 s16 s17 : Slot), (∀ p ∈ qs, PlOk p) → ∃ u15 u16 u17, forL (gN 15) B_law_3 (qs.map pl) [s0, s1, .val (.lst (ps.map pl)), s3, s4, s5, s6, s7, s8, s9, s10, s11, s12, s13, .val (.bl b), s15, s16, s17, s18, s19, s20, s21] w
    = .nx [s0, s1, .val (.lst (ps.map pl)), s3, s4, s5, s6, s7, s8, s9, s10, s11, s12, s13, .val (.bl (b && allX p0 ps qs)), u15, u16, u17, s18, s19, s20, s21] w
  | [], b, s15, s16, s17, _ => ⟨s15, s16, s17, by unfold allX; rw [List.all_nil, Bool.and_true]; rfl⟩
  | p :: qs, b, s15, s16, s17, h => by
    have hq := h p (List.mem_cons_self ..)
    obtain ⟨v16, v17, e1⟩ := twoL (w := w) h0 hq hz (s0 := s0) (s1 := s1) (s3 := s3) (s4 := s4) (s5 := s5) (s6 := s6) (s7 := s7) (s8 := s8) (s9 := s9) (s10 := s10) (s11 := s11) (s12 := s12) (s13 := s13) (s18 := s18) (s19 := s19) (s20 := s20) (s21 := s21) ps b s16 s17 hp
    obtain ⟨u15, u16, u17, e⟩ := oneL h0 hz hp (s0 := s0) (s1 := s1) (s3 := s3) (s4 := s4) (s5 := s5) (s6 := s6) (s7 := s7) (s8 := s8) (s9 := s9) (s10 := s10) (s11 := s11) (s12 := s12) (s13 := s13) (s18 := s18) (s19 := s19) (s20 := s20) (s21 := s21) qs (b && ps.all fun x => decide (cross p0 p x = 0)) (.val (pl p)) v16 v17 fun x hx => h x (List.mem_cons_of_mem _ hx)
    refine ⟨u15, u16, u17, ?_⟩
    have ea : (b && allX p0 ps (p :: qs)) = (b && (ps.all fun x => decide (cross p0 p x = 0)) && allX p0 ps qs) := by
      unfold allX
      rw [List.all_cons, Bool.and_assoc]
    rw [ea, List.map_cons]
    simp? only [Nat.reduceSub, Nat.reduceAdd, B_law_3_w, e1]
    exact e
theorem irowL {p0 p1 : Pl} (h0 : PlOk p0) (h1 : PlOk p1) {xs : List D} (i0 : itemAt xs 0 = some (pl p0)) (i1 : itemAt xs 1 = some (pl p1)) : ∀ (qs : List Pl) (s1 : Slot), (∀ p ∈ qs, PlOk p) → ∃ ρ', forL (gN 1) B_in_row_0 (qs.map pl) [.val (.lst xs), s1] w = (if (qs.all fun x => decide (cross p0 p1 x = 0)) = true then .nx ρ' w else .rt (.bl false) w)
  | [], s1, _ => ⟨_, rfl⟩
  | p :: qs, s1, h => by
    have hp := h p (List.mem_cons_self ..)
    have c2 := fun w : Wd => cross_w (w := w) h0 h1 hp
    have nz := fun w : Wd => ne0 (cross p0 p1 p) w
    rw [List.map_cons, List.all_cons]
    by_cases hc : cross p0 p1 p = 0
    · obtain ⟨ρ', e⟩ := irowL h0 h1 i0 i1 qs (.val (pl p)) fun x hx => h x (List.mem_cons_of_mem _ hx)
      refine ⟨ρ', ?_⟩
      rw [decide_eq_true hc, Bool.true_and, ← e]
      rw [decide_eq_true hc] at nz
      simp? only [Nat.reduceSub, Nat.reduceAdd, B_in_row_0_w, i0, i1, ↓c2, ↓nz]
    · refine ⟨[], ?_⟩
      rw [decide_eq_false hc, Bool.false_and, if_neg Bool.false_ne_true]
      rw [decide_eq_false hc] at nz
      simp? only [Nat.reduceSub, Nat.reduceAdd, B_in_row_0_w, i0, i1, ↓c2, ↓nz]
theorem row_short {xs : List D} (h : xs.length < 3) : F_in_row [.lst xs] w = .ok (.bl true) w := by
  have z : (xs.length : Int) < 3 := by omega
  unfold F_in_row
  simp? only [Nat.reduceSub, Nat.reduceAdd, z, decide_true]
theorem cross_span {p0 p1 a b : Pl} (hne : p1 ≠ p0) (h1 : cross p0 p1 a = 0) (h2 : cross p0 p1 b = 0) : cross p0 a b = 0 := by
  unfold cross at *
  have : p1.1 - p0.1 ≠ 0 ∨ p1.2 - p0.2 ≠ 0 := by
    by_cases h : p1.1 - p0.1 = 0
    · right
      intro z
      exact hne (Prod.ext (by grind) (by grind))
    · exact .inl h
  rcases this with h | h
  · have e1 : a.2 - p0.2 = (p1.2 - p0.2) * (a.1 - p0.1) / (p1.1 - p0.1) := by grind
    have e2 : b.2 - p0.2 = (p1.2 - p0.2) * (b.1 - p0.1) / (p1.1 - p0.1) := by grind
    rw [e1, e2]; grind
  · have e1 : a.1 - p0.1 = (p1.1 - p0.1) * (a.2 - p0.2) / (p1.2 - p0.2) := by grind
    have e2 : b.1 - p0.1 = (p1.1 - p0.1) * (b.2 - p0.2) / (p1.2 - p0.2) := by grind
    rw [e1, e2]; grind
theorem row_w {p0 p1 : Pl} {r : List Pl} (hp : ∀ p ∈ p0 :: p1 :: r, PlOk p) (nd : (p0 :: p1 :: r).Nodup) (h6 : r.length ≤ 4) : F_in_row [.lst ((p0 :: p1 :: r).map pl)] w = .ok (.bl (allX p0 (p0 :: p1 :: r) (p0 :: p1 :: r))) w := by
  have h0 := hp p0 (List.mem_cons_self ..)
  have h1 := hp p1 (List.mem_cons_of_mem _ (List.mem_cons_self ..))
  have hr : ∀ p ∈ r, PlOk p := fun p h => hp p (List.mem_cons_of_mem _ (List.mem_cons_of_mem _ h))
  have hne : p1 ≠ p0 := fun e => by
    rw [List.nodup_cons] at nd
    exact nd.1 (by rw [e]; exact List.mem_cons_self ..)
  have z00 : ∀ x, cross p0 p0 x = 0 := fun x => by unfold cross; grind
  have z11 : cross p0 p1 p1 = 0 := by unfold cross; grind
  have z10 : ∀ x, cross p0 x p0 = 0 := fun x => by unfold cross; grind
  have key : allX p0 (p0 :: p1 :: r) (p0 :: p1 :: r) = r.all fun x => decide (cross p0 p1 x = 0) := by
    rw [Bool.eq_iff_iff]
    unfold allX
    simp only [List.all_eq_true, decide_eq_true_eq]
    constructor
    · intro h x hx
      exact h p1 (by simp) x (by simp [hx])
    · intro h a ha b hb
      have on : ∀ x ∈ p0 :: p1 :: r, cross p0 p1 x = 0 := fun x hx => by
        rcases List.mem_cons.mp hx with rfl | hx
        · exact z10 _
        · rcases List.mem_cons.mp hx with rfl | hx
          · exact z11
          · exact h x hx
      exact cross_span hne (on a ha) (on b hb)
  rw [key]
  have i0 : itemAt ((p0 :: p1 :: r).map pl) 0 = some (pl p0) := item0 _ _
  have i1 : itemAt ((p0 :: p1 :: r).map pl) 1 = some (pl p1) := item1 _ _ _
  by_cases h3 : r.length < 1
  · have : r = [] := by
      cases r with
      | nil => rfl
      | cons x xs => simp at h3
    subst this
    exact row_short (by simp)
  · have nz : ¬ (((p0 :: p1 :: r).map pl).length : Int) < 3 := by
      rw [List.length_map, List.length_cons, List.length_cons]
      omega
    have ln : (((p0 :: p1 :: r).map pl).length : Int) = ((r.length + 1 + 1 : Nat) : Int) := by rw [List.length_map, List.length_cons, List.length_cons]
    obtain ⟨ρ', e⟩ := irowL (w := w) h0 h1 i0 i1 r .none hr
    have dr : slL (.lst ((p0 :: p1 :: r).map pl)) (.int 2) w = .ok (.lst (r.map pl)) w := slL_v _ 2
    have ll : ∀ w : Wd, lenD (.lst ((p0 :: p1 :: r).map pl)) w = .ok (.int (((p0 :: p1 :: r).map pl).length : Int)) w := fun _ => rfl
    generalize hxs : (p0 :: p1 :: r).map pl = xs at *
    unfold F_in_row
    by_cases ha : (r.all fun x => decide (cross p0 p1 x = 0)) = true
    · rw [if_pos ha] at e
      rw [ha]
      simp? only [Nat.reduceSub, Nat.reduceAdd, ↓ll, nz, decide_false, dr, e]
    · have ha' : (r.all fun x => decide (cross p0 p1 x = 0)) = false := by simpa using ha
      rw [if_neg ha] at e
      rw [ha']
      simp? only [Nat.reduceSub, Nat.reduceAdd, ↓ll, nz, decide_false, dr, e]
/-! ### legs -/
structure DueL (many : Int) (pd : D) (d : D) : Prop where
  y : ∃ y : D, (∀ (ρ : FL.Env) (w : Wd), ρ[19]? = some (.val d) → ρ[18]? = some (.val (.int many)) → (eIf (tAnd (tTru (eUn (isiB [.int]) (eVar 19))) (tAnd (tNot (tTru (eUn (isiB [.bool]) (eVar 19)))) (tVal (eChain leD ltD (eC (.int 0)) (eVar 19) (eVar 18))))) (eVar 19) (eC (.str "refused"))) ρ w = .ok y w) ∧
    (∀ w : Wd, F__law_leg [pd, d] w = .ok y w) ∧ D.flat 60 y = true
theorem leg_ok {xs : List D} {d : D} (h : ∀ w : Wd, F_is_whole [d, .int 0, .int ((xs.length : Int) - 1)] w = .ok (.bl true) w) : F__law_leg [.lst xs, d] w = .ok d w := by
  unfold F__law_leg F_check_leg
  simp? only [Nat.reduceSub, Nat.reduceAdd, h]
theorem leg_no {xs : List D} {d : D} (h : ∀ w : Wd, F_is_whole [d, .int 0, .int ((xs.length : Int) - 1)] w = .ok (.bl false) w) (f : D.flat 60 d = true) : F__law_leg [.lst xs, d] w = .ok (.str "refused") w := by
  have x1 : ∀ w : Wd, xfK (some (.exc 3 ["leg"] [d])) "leg" w = .ok d w := fun w => xfK_v 3 _ _ _ rfl
  have eq : ∀ w : Wd, eqD d d w = .ok (.bl true) w := fun w => eq_same f
  unfold F__law_leg F_check_leg
  simp? only [Nat.reduceSub, Nat.reduceAdd, h, tryK_ex (c := 3) _ _ _ _ _ (show (3 : Nat) ∈ [3] by decide), x1, ↓eq]
theorem due_i {xs : List D} (i : Int) : DueL (xs.length : Int) (.lst xs) (.int i) := by
  by_cases h0 : 0 ≤ i
  · by_cases h1 : i < (xs.length : Int)
    · refine ⟨.int i, fun ρ w r1 r2 => ?_, fun w => leg_ok fun w => by rw [whole_lh, decide_eq_true (by omega)], rfl⟩
      simp? only [Nat.reduceSub, Nat.reduceAdd, r1, r2, h0, h1, decide_true]
    · refine ⟨.str "refused", fun ρ w r1 r2 => ?_, fun w => leg_no (fun w => by rw [whole_lh, decide_eq_false (by omega)]) rfl, fs_rf⟩
      simp? only [Nat.reduceSub, Nat.reduceAdd, r1, r2, h0, h1, decide_true, decide_false]
  · refine ⟨.str "refused", fun ρ w r1 r2 => ?_, fun w => leg_no (fun w => by rw [whole_lh, decide_eq_false (by omega)]) rfl, fs_rf⟩
    simp? only [Nat.reduceSub, Nat.reduceAdd, r1, r2, h0, decide_false]
theorem due_b {xs : List D} : DueL (xs.length : Int) (.lst xs) (.bl true) := by
  refine ⟨.str "refused", fun ρ w r1 r2 => ?_, fun w => leg_no (fun w => whole_b _ _ _) rfl, fs_rf⟩
  simp? only [Nat.reduceSub, Nat.reduceAdd, r1]
theorem due_n {xs : List D} : DueL (xs.length : Int) (.lst xs) .non := by
  refine ⟨.str "refused", fun ρ w r1 r2 => ?_, fun w => leg_no (fun w => whole_n _ _) rfl, fs_rf⟩
  simp? only [Nat.reduceSub, Nat.reduceAdd, r1]
theorem due_t {xs : List D} : DueL (xs.length : Int) (.lst xs) (.tup [.int 0, .int 1]) := by
  refine ⟨.str "refused", fun ρ w r1 r2 => ?_, fun w => leg_no (fun w => whole_t _ _ _) rfl, fs_rf⟩
  simp? only [Nat.reduceSub, Nat.reduceAdd, r1]
theorem lawL4 {xs : List D} {s0 s1 s3 s4 s5 s6 s7 s8 s9 s10 s11 s12 s13 s14 s15 s16 s17 s21 : Slot} : ∀ (ds : List D) (s19 s20 : Slot), (∀ d ∈ ds, DueL (xs.length : Int) (.lst xs) d) → ∃ u19 u20, forL (gN 19) B_law_4 ds [s0, s1, .val (.lst xs), s3, s4, s5, s6, s7, s8, s9, s10, s11, s12, s13, s14, s15, s16, s17, .val (.int (xs.length : Int)), s19, s20, s21] w
    = .nx [s0, s1, .val (.lst xs), s3, s4, s5, s6, s7, s8, s9, s10, s11, s12, s13, s14, s15, s16, s17, .val (.int (xs.length : Int)), u19, u20, s21] w
  | [], s19, s20, _ => ⟨s19, s20, rfl⟩
  | d :: ds, s19, s20, h => by
    obtain ⟨y, h1, h2, fy⟩ := (h d (List.mem_cons_self ..)).y
    obtain ⟨u19, u20, e⟩ := lawL4 (xs := xs) (s0 := s0) (s1 := s1) (s3 := s3) (s4 := s4) (s5 := s5) (s6 := s6) (s7 := s7) (s8 := s8) (s9 := s9) (s10 := s10) (s11 := s11) (s12 := s12) (s13 := s13) (s14 := s14) (s15 := s15) (s16 := s16) (s17 := s17) (s21 := s21) ds (.val d) (.val y) fun x hx => h x (List.mem_cons_of_mem _ hx)
    refine ⟨u19, u20, ?_⟩
    have ny : ∀ w : Wd, neD y y w = .ok (.bl false) w := fun w => ne_same fy
    simp? only [Nat.reduceSub, Nat.reduceAdd, B_law_4_w, ↓h1, h2, ↓ny]
    exact e
end
end K02

namespace K02
open PySem FL
variable {w : Wd}
theorem due_good : ∀ (ps kn : List Pl) (n : Nat), (kn ++ ps).Nodup → due n kn (ps.map some) = .ok (kn ++ ps)
  | [], kn, n, _ => by rw [List.append_nil]; rfl
  | p :: ps, kn, n, h => by
    have hp : p ∉ kn := fun z => by
      have := List.nodup_append.mp h
      exact this.2.2 p z p (List.mem_cons_self ..) rfl
    have e : due n kn ((p :: ps).map some) = due (n + 1) (kn ++ [p]) (ps.map some) := if_neg hp
    rw [e, List.append_cons kn p ps]
    exact due_good ps (kn ++ [p]) (n + 1) (by rw [← List.append_cons]; exact h)
def tailS : SF := (sSeq (sSet 9 (eCall reprL [(eVar 8)])) (sSeq (sSet 10 (eCall F__law_try [(eIf (tTru (eCall F__law_take [(eVar 1), (eC (.int 2))])) (eVar 8) (eCall (un1 tupD) [(eVar 8)]))])) (sSeq (sIf (tOr (tVal (eBin neD (eVar 10) (eCall F__law_due [(eVar 3)]))) (tVal (eBin neD (eCall reprL [(eVar 8)]) (eVar 9)))) (sRet (eC (.bl false))) sNext) (sSeq (sIf (tOr (tVal (eBin neD (eCall F__law_try [(eC .non)]) (eTup [(eC (.int 0)), (eC (.str "many"))]))) (tVal (eBin neD (eCall F__law_try [(eC (.str "ab"))]) (eTup [(eC (.int 0)), (eC (.str "many"))])))) (sRet (eC (.bl false))) sNext) (sSeq (sIf (tOr (tVal (eBin neD (eCall F__law_try [(eVar 2)]) (eCall (un1 tupD) [(eVar 2)]))) (tNot (tTru (eCall (F__law_tuples 6) [(eCall F__law_try [(eNew (nLc (iSeq (eVar 2)) [13] (gN 13) tYes (eCall (un1 listD) [(eVar 13)])))])])))) (sRet (eC (.bl false))) sNext) (sSeq (sSet 11 (eBin ixD (eCall F__law_spots [(eVar 1), (eC (.int 2)), (eC (.bl false))]) (eC (.int 0)))) (sSeq (sSet 12 (eCall F__law_arm [(eVar 1)])) (sSeq (sFor (iSeq (eVar 2)) (gN 13) B_law_1) (sSeq (sSet 14 (eC (.bl true))) (sSeq (sFor (iSeq (eVar 2)) (gN 15) B_law_3) (sSeq (sIf (tOr (tVal (eBin neD (eCall F_in_row [(eVar 2)]) (eVar 14))) (tOr (tNot (tTru (eUn (isiB [.bool]) (eCall F_in_row [(eVar 2)])))) (tOr (tVal (eBin isNotD (eCall F_in_row [(eSlice (eVar 2) none (some (eC (.int 2))))]) (eC (.bl true)))) (tVal (eBin isNotD (eCall F_in_row [(eSlice (eVar 2) none (some (eC (.int 1))))]) (eC (.bl true))))))) (sRet (eC (.bl false))) sNext) (sSeq (sSet 18 (eCall (un1 lenD) [(eVar 2)])) (sSeq (sFor (iSeq (eLst [(eUn negD (eC (.int 1))), (eVar 18), (eC (.bl true)), (eC .non), (eTup [(eC (.int 0)), (eC (.int 1))]), (eC (.int 0)), (eBin subD (eVar 18) (eC (.int 1))), (eCall F__law_take [(eVar 1), (eVar 18)])])) (gN 19) B_law_4) (sRet (eC (.bl true))))))))))))))))
theorem law_eq : F_law = callF 22 (sSeq (sSet 1 (eCall F__law_hand [(eVar 0)])) (sSeq (sSet 2 (eCall F__law_spots [(eVar 1), (eBin addD (eC (.int 2)) (eCall F__law_take [(eVar 1), (eC (.int 5))])), (eBin eqD (eCall F__law_take [(eVar 1), (eC (.int 3))]) (eC (.int 0)))])) (sSeq (sOwn 3 (nLc (iSeq (eVar 2)) [13] (gN 13) tYes (eLst [(eC (.bl false)), (eVar 13)]))) (sSeq (sFor (iRng (eC (.int 0)) (eCall F__law_take [(eVar 1), (eC (.int 3))])) (gN 4) B_law_0) (sSeq (sFrz 3) (sSeq (sSet 8 (eNew (nLc (iSeq (eVar 3)) [21] (gN 21) tYes (eIf (tOr (tTru (eBin ixD (eVar 21) (eC (.int 0)))) (tTru (eCall F__law_take [(eVar 1), (eC (.int 2))]))) (eBin ixD (eVar 21) (eC (.int 1))) (eCall (un1 listD) [(eBin ixD (eVar 21) (eC (.int 1)))]))))) tailS)))))) := rfl
theorem plain (ns : List Int) (hl : ns.length ≤ 63) : ∃ w', F_law [.frz (ns.map D.int)] none = .ok (.bl true) w' := by
  obtain ⟨w0, e0, h0⟩ := hand_w ns hl
  obtain ⟨k, w1, e1, k0, k9, h1⟩ := take_w (many := 5) (k := 3) h0 (by decide) (by unfold Sz; decide) (by decide)
  obtain ⟨g, w2, e2, g0, g9, h2⟩ := take_w (many := 3) (k := 2) h1 (by decide) (by unfold Sz; decide) (by decide)
  obtain ⟨ps, w3, e3, hp, nd, len, h3⟩ := spots_w (m := 2 + k) (g == 0) h2 (by omega) (by omega)
  have p2 : 2 ≤ ps.length := by omega
  have p6 : ps.length ≤ 6 := by omega
  have ll : (ps.map pl).length ≤ line := by rw [List.length_map]; exact le_line (by omega)
  have hM0 : ∀ q ∈ ps.map (fun p => (⟨some p, pl p⟩ : Mp)), MkOk q := fun q hq => by
    obtain ⟨p, h, rfl⟩ := List.mem_map.mp hq
    exact mk_good (hp p h)
  have lc0 : ∀ (w : Wd) (ρ : FL.Env), ρ.length = 22 → lcL (gN 13) tYes (eLst [(eC (.bl false)), (eVar 13)]) ρ (ps.map pl) w = .ok ((ps.map (fun p => (⟨some p, pl p⟩ : Mp))).map mrow) w := fun w ρ hr => by
    rw [List.map_map]
    exact lcMap (f := pl) (g := mrow ∘ fun p => (⟨some p, pl p⟩ : Mp)) 13 _ _ fun x hx => by
      have h : (ρ.set 13 (.val (pl x)))[13]? = some (.val (pl x)) := by rw [List.getElem?_set_self (by omega)]
      simp? only [Nat.reduceSub, Nat.reduceAdd, h]
      rfl
  obtain ⟨t, w4, e4, t0, t9, h4⟩ := take_w (many := 3) (k := 2) h3 (by decide) (by unfold Sz; decide) (by decide)
  have rt := range0i (w := w4) (i := t) t0 (by omega)
  obtain ⟨M, u4, u5, u6, u7, w5, h5, hM, m8, e5⟩ := markL hp p2 p6 (s0 := .val (.frz (ns.map D.int))) (s8 := .none) (s9 := .none) (s10 := .none) (s11 := .none) (s12 := .none) (s13 := .none) (s14 := .none) (s15 := .none) (s16 := .none) (s17 := .none) (s18 := .none) (s19 := .none) (s20 := .none) (s21 := .none) t.toNat 0 (ps.map fun p => (⟨some p, pl p⟩ : Mp)) .none .none .none .none w4 h4 hM0 (by rw [List.length_map]; omega) (by rw [List.length_map]; omega)
  have lm : (M.map mrow).length ≤ line := by rw [List.length_map]; exact le_line (by omega)
  obtain ⟨G, w6, e6, gp, gok, h6⟩ := giveL (ρ := [.val (.frz (ns.map D.int)), .val .hand, .val (.lst (ps.map pl)), .val (.lst (M.map mrow)), u4, u5, u6, u7, .none, .none, .none, .none, .none, .none, .none, .none, .none, .none, .none, .none, .none, .none]) rfl rfl M w5 h5 hM
  have g8 : G.length ≤ 8 := by
    have := congrArg List.length gp
    rw [List.length_map, List.length_map] at this
    omega
  have rp := repr_w gok g8
  have rs := fun w : Wd => repr_ok (w := w) gok
  obtain ⟨c, w7, e7, c0, c9, h7⟩ := take_w (many := 2) (k := 2) h6 (by decide) (by unfold Sz; decide) (by decide)
  have mb : ∀ q ∈ G, MpB q := fun q hq => (gok q hq).b
  have tl := fun w : Wd => try_w (w := w) (c := D.lst) mb (by omega) (.inl rfl)
  have tt := fun w : Wd => try_w (w := w) (c := D.tup) mb (by omega) (.inr rfl)
  have du := fun w : Wd => due_w (w := w) hM m8
  rw [gp] at tl tt
  have nd_ : ∀ w : Wd, neD (dueAll (M.map Mp.p)).d (dueAll (M.map Mp.p)).d w = .ok (.bl false) w := fun w => ne_same (dueAll_flat _)
  have tn := fun w : Wd => try_no (w := w) (d := .non) (fun w => isi_lt_n)
  have ts := fun w : Wd => try_no (w := w) (d := .str "ab") (fun w => isi_lt_s _)
  have nm : ∀ w : Wd, neD (.tup [.int 0, .str "many"]) (.tup [.int 0, .str "many"]) w = .ok (.bl false) w := fun w => ne_same (res_b (n := 0) fs_mn)
  have dg : ∀ f : Pl → D, dueAll ((ps.map fun p => (⟨some p, f p⟩ : Mp)).map Mp.p) = .ok ps := fun f => by
    rw [List.map_map]
    have e : (Mp.p ∘ fun p => (⟨some p, f p⟩ : Mp)) = some := rfl
    rw [e]
    unfold dueAll
    rw [if_pos (by rw [List.length_map]; exact ⟨p2, p6⟩), due_good ps [] 0 nd]
    rfl
  have md : ∀ f : Pl → D, (ps.map fun p => (⟨some p, f p⟩ : Mp)).map Mp.d = ps.map f := fun f => by rw [List.map_map]; rfl
  have t1 : ∀ w : Wd, F__law_try [.lst (ps.map pl)] w = .ok (.tup (ps.map pl)) w := fun w => by
    have := try_w (w := w) (qs := ps.map fun p => ⟨some p, pl p⟩) (c := D.lst) (fun q hq => by
      obtain ⟨p, h, rfl⟩ := List.mem_map.mp hq
      exact (gv_t (hp p h)).b) (by rw [List.length_map]; omega) (.inl rfl)
    rw [md, dg] at this
    exact this
  have t2 : ∀ w : Wd, F__law_try [.lst (ps.map pll)] w = .ok (.tup (ps.map pl)) w := fun w => by
    have := try_w (w := w) (qs := ps.map fun p => ⟨some p, pll p⟩) (c := D.lst) (fun q hq => by
      obtain ⟨p, h, rfl⟩ := List.mem_map.mp hq
      exact (gv_l (hp p h)).b) (by rw [List.length_map]; omega) (.inl rfl)
    rw [md, dg] at this
    exact this
  have np : ∀ w : Wd, neD (.tup (ps.map pl)) (.tup (ps.map pl)) w = .ok (.bl false) w := fun w => ne_same (show D.flatL 59 (ps.map pl) = true from flatL_map ps fun _ _ => rfl)
  have lc1 : ∀ (w : Wd) (ρ : FL.Env), ρ.length = 22 → lcL (gN 13) tYes (eCall (un1 listD) [(eVar 13)]) ρ (ps.map pl) w = .ok (ps.map pll) w := fun w ρ hr => lcMap (f := pl) (g := pll) 13 _ _ fun x hx => by
    have h : (ρ.set 13 (.val (pl x)))[13]? = some (.val (pl x)) := by rw [List.getElem?_set_self (by omega)]
    simp? only [Nat.reduceSub, Nat.reduceAdd, h]
  have tp := fun w : Wd => tup_pls (w := w) ps (by omega)
  obtain ⟨bs, w8, e8, hb, _, bl, h8⟩ := spots_w (m := 2) false h7 (by decide) (by decide)
  have bl : bs.length = 2 := bl
  have b0 : itemAt (bs.map pl) 0 = some (pl (bs[0]'(by omega))) := itemMap (f := pl) (k := 0) (List.getElem?_eq_getElem (by omega))
  have ob := hb _ (List.getElem_mem (show 0 < bs.length by omega))
  generalize (bs[0]'(by omega)) = by_ at b0 ob
  obtain ⟨sz, w9, e9, as, h9⟩ := arm_w h8
  obtain ⟨p0, p1, r, hps⟩ : ∃ p0 p1 r, ps = p0 :: p1 :: r := by
    match ps, p2 with
    | a :: b :: r, _ => exact ⟨a, b, r, rfl⟩
  have hp0 : PlOk p0 := hp p0 (by rw [hps]; exact List.mem_cons_self ..)
  obtain ⟨u13, e10⟩ := placeL (w := w9) ob as.1 (s0 := .val (.frz (ns.map D.int))) (s1 := .val .hand) (s2 := .val (.lst (ps.map pl))) (s3 := .val (.lst (M.map mrow))) (s4 := u4) (s5 := u5) (s6 := u6) (s7 := u7) (s8 := .val (.lst (G.map Mp.d))) (s9 := .val (.str (D.lst (G.map Mp.d)).py.shown)) (s10 := .val (dueAll (M.map Mp.p)).d) (s14 := .none) (s15 := .none) (s16 := .none) (s17 := .none) (s18 := .none) (s19 := .none) (s20 := .none) (s21 := .none) ps .none hp
  obtain ⟨u15, u16, u17, e11⟩ := oneL (w := w9) (ps := ps) hp0 ⟨p1 :: r, hps⟩ hp (s0 := .val (.frz (ns.map D.int))) (s1 := .val .hand) (s3 := .val (.lst (M.map mrow))) (s4 := u4) (s5 := u5) (s6 := u6) (s7 := u7) (s8 := .val (.lst (G.map Mp.d))) (s9 := .val (.str (D.lst (G.map Mp.d)).py.shown)) (s10 := .val (dueAll (M.map Mp.p)).d) (s11 := .val (pl by_)) (s12 := .val (rq sz)) (s13 := u13) (s18 := .none) (s19 := .none) (s20 := .none) (s21 := .none) ps true .none .none .none hp
  rw [Bool.true_and] at e11
  have rw_ : ∀ w : Wd, F_in_row [.lst (ps.map pl)] w = .ok (.bl (allX p0 ps ps)) w := fun w => by
    rw [hps] at hp nd p6 ⊢
    exact row_w hp nd (by simp only [List.length_cons] at p6; omega)
  have r2 : ∀ w : Wd, F_in_row [.lst ((ps.map pl).take 2)] w = .ok (.bl true) w := fun w => row_short (by rw [List.length_take]; omega)
  have r1 : ∀ w : Wd, F_in_row [.lst ((ps.map pl).take 1)] w = .ok (.bl true) w := fun w => row_short (by rw [List.length_take]; omega)
  have s2 : ∀ w : Wd, slK (.lst (ps.map pl)) none (.int 2) w = .ok (.lst ((ps.map pl).take 2)) w := fun w => slK_v _ 2
  have s1 : ∀ w : Wd, slK (.lst (ps.map pl)) none (.int 1) w = .ok (.lst ((ps.map pl).take 1)) w := fun w => slK_v _ 1
  have nb : ∀ (b : Bool) (w : Wd), neD (.bl b) (.bl b) w = .ok (.bl false) w := fun b w => ne_same rfl
  obtain ⟨f, w10, e12, f0, f9, h10⟩ := take_w (many := (ps.length : Int)) (k := 3) h9 (by omega) (sz_of (by omega) (by omega)) (by decide)
  have pl_ : ((ps.map pl).length : Int) = (ps.length : Int) := by rw [List.length_map]
  obtain ⟨u19, u20, e13⟩ := lawL4 (w := w10) (xs := ps.map pl) (s0 := .val (.frz (ns.map D.int))) (s1 := .val .hand) (s3 := .val (.lst (M.map mrow))) (s4 := u4) (s5 := u5) (s6 := u6) (s7 := u7) (s8 := .val (.lst (G.map Mp.d))) (s9 := .val (.str (D.lst (G.map Mp.d)).py.shown)) (s10 := .val (dueAll (M.map Mp.p)).d) (s11 := .val (pl by_)) (s12 := .val (rq sz)) (s13 := u13) (s14 := .val (.bl (allX p0 ps ps))) (s15 := u15) (s16 := u16) (s17 := u17) (s21 := .none) [.int (-1), .int (ps.length : Int), .bl true, .non, .tup [.int 0, .int 1], .int 0, .int ((ps.length : Int) - 1), .int f] .none .none (fun d hd => by
    simp only [List.mem_cons, List.not_mem_nil, or_false] at hd
    rcases hd with rfl | rfl | rfl | rfl | rfl | rfl | rfl | rfl
    · exact due_i _
    · exact due_i _
    · exact due_b
    · exact due_n
    · exact due_t
    · exact due_i _
    · exact due_i _
    · exact due_i _)
  rw [pl_] at e13
  have tw : tailS [.val (.frz (ns.map D.int)), .val .hand, .val (.lst (ps.map pl)), .val (.lst (M.map mrow)), u4, u5, u6, u7, .val (.lst (G.map Mp.d)), .none, .none, .none, .none, .none, .none, .none, .none, .none, .none, .none, .none, .none] w6 = .rt (.bl true) w10 := by
    have tc : ∀ ρ : FL.Env, ρ[1]? = some (.val .hand) → ρ[8]? = some (.val (.lst (G.map Mp.d))) → (eCall F__law_try [(eIf (tTru (eCall F__law_take [(eVar 1), (eC (.int 2))])) (eVar 8) (eCall (un1 tupD) [(eVar 8)]))]) ρ w6 = .ok (dueAll (M.map Mp.p)).d w7 := fun ρ r1 r8 => by
      by_cases hc : c = 0
      · subst hc
        simp? only [Nat.reduceSub, Nat.reduceAdd, r1, r8, e7, show ((0 : Int) != 0) = false from rfl, tt]
      · have cb : (c != 0) = true := by simpa using hc
        simp? only [Nat.reduceSub, Nat.reduceAdd, r1, r8, e7, cb, tl]
    unfold tailS
    simp? only [Nat.reduceSub, Nat.reduceAdd, rp, ↓tc, du, ↓nd_, ↓rs, tn, ts, ↓nm, t1, ↓np, lcM_v _ _ _ _ ll, lc1, t2, tp, e8, b0, e9, e10, e11, rw_, nb, s2, s1, r2, r1, show decide (true = true) = true from rfl, List.length_map, e12, e13]
  refine ⟨w10, ?_⟩
  rw [law_eq]
  simp? only [Nat.reduceSub, Nat.reduceAdd, e0, e1, e2, e3, lcM_v _ _ _ _ ll, lc0, e4, rt, e5, lcM_v _ _ _ _ lm, e6, tw]
end K02

open PySem PySem.W PyProof.Rows
set_option maxRecDepth 100000 in
set_option maxHeartbeats 0 in
theorem PySem.Challenge.cw_wherelaid_k02_whole_places_and_rows_holds : PySem.Challenge.rw_wherelaid_k02_whole_places_and_rows.Holds := by
  w_on; o_law
  refine HandSHeadRun.head_imp (r := OpenLaw.row PySem.Challenge.rw_wherelaid_k02_whole_places_and_rows) (q := view (OpenLaw.row PySem.Challenge.rw_wherelaid_k02_whole_places_and_rows).prog [0, 51]) (H := FL.hookH 6 K02.cks K02.fns K02.bls) (ob := K02.ob) (M := 40000) (loose := K02.names) (d := HandSHeadRun.topDef (OpenLaw.row PySem.Challenge.rw_wherelaid_k02_whole_places_and_rows).prog 51) (kwd := []) K02.ob_eq K02.run (by kernel_rfl) (by kernel_rfl) (by kernel_rfl) (by rfl) (by first | assumption | decide +kernel) (by decide +kernel) ⟨rfl, rfl, rfl, rfl, rfl, by decide +kernel⟩ ?hw ?hc
  case hw => w_witness2
  case hc =>
    refine FL.law_endTH (l := PySem.Challenge.rw_wherelaid_k02_whole_places_and_rows) (F := K02.F_law) rfl (by decide) (by kernel_rfl) K02.plain ?G
    case G =>
      intro K w mg h KX GX c
      have e : (HandSHeadRun.topDef (OpenLaw.row PySem.Challenge.rw_wherelaid_k02_whole_places_and_rows).prog 51).name = ("law" : PySem.Str) := by kernel_rfl
      rw [e]
      exact K02.law_mk (K02.all_mkH KX GX c)

