import PyProof.Rows.All
import Wide.All
import OpenK.AllK
import Wide.FinOn
import PySem.Str
import HandS.ForMost
import HandS.Exc
import HandS.TryOnly
import HandS.ExcOwn
import HandS.WordsExc
import HandS.ExcInit
import HandS.ExcField
import HandS.Wide
import HandS.Gcd
import HandS.IsInst
import HandS.Flow
import HandS.Style
import HandS.Deep
import HandS.FStr
import HandS.ExcCtx
import HandS.HotCalls
import HandS.Walk
import HandS.Defaults
import HandS.More
import HandS.Iter
import KE.GoesMore
import KE.GoesEnum
import HandS.Ends
import HandS.OwnEq
import HandS.Property
import HandS.TryMany
import KE.KStateDown
import HandS.Head0
import HandS.Head1
import HandS.Head2
import HandS.Head3
import HandS.HeadEnd
import HandS.HeadHook1
import HandS.HeadHook2
import PyProof.P3In
import HandS.Hot
import HandS.List
import KE.KExcSuper
import HandS.ExcSuper
import PySem.Challenge.RW_wherelaid_k49_whole_verdicts_and_widths
import HandS.EndBits
import KE.GoesZip
import HandS.Zip
import HandS.Rev
import PyProof.Rows.SortShell
import KE.KMathG
import KE.DataMinMax
import HandS.TupSets
import PyProof.P3Eq
import HandS.Conv
import HandS.TupAny
set_option Elab.async false
set_option linter.all false
set_option maxRecDepth 100000
set_option maxHeartbeats 4000000
namespace FL
open PySem
inductive D where
  | non | bl (b : Bool) | int (i : Int) | str (x : Str)
  | tup (xs : List D) | lst (xs : List D)
  /-- a list that is only read: the script, a module's -/
  | frz (xs : List D)
  | ins (c : Nat) (ns : List Str) (xs : List D)
  | hand
  deriving Inhabited
abbrev Wd := Option (List D)
inductive R (α : Type) where
  | ok (a : α) (w : Wd)
  | ex (c : Nat) (ns : List Str) (xs : List D) (w : Wd)
  | bad
def M (α : Type) := Wd → R α
namespace M
def ret {α : Type} (a : α) : M α := fun w => .ok a w
def bind {α β : Type} (m : M α) (f : α → M β) : M β := fun w =>
  match m w with
  | .ok a w' => f a w'
  | .ex c ns xs w' => .ex c ns xs w'
  | .bad => .bad
def fail {α : Type} : M α := fun _ => .bad
def raise {α : Type} (c : Nat) (ns : List Str) (xs : List D) : M α := fun w => .ex c ns xs w
def get : M Wd := fun w => .ok w w
def put (w : Wd) : M Unit := fun _ => .ok () w
end M
instance : Monad M where
  pure := M.ret
  bind := M.bind
section
variable {α β γ : Type}
@[simp] theorem ret_bind (a : α) (f : α → M β) : M.bind (M.ret a) f = f a := rfl
@[simp] theorem fail_bind (f : α → M β) : M.bind (M.fail : M α) f = M.fail := rfl
@[simp] theorem raise_bind (c : Nat) (ns : List Str) (xs : List D) (f : α → M β) : M.bind (M.raise c ns xs : M α) f = M.raise c ns xs := rfl
@[simp] theorem bind_bind (m : M α) (f : α → M β) (g : β → M γ) : M.bind (M.bind m f) g = M.bind m fun a => M.bind (f a) g := by
  funext w; unfold M.bind; cases m w <;> rfl
theorem bind_ret (m : M α) : M.bind m M.ret = m := by
  funext w; unfold M.bind M.ret; cases m w <;> rfl
@[simp] theorem ret_ap (a : α) (w : Wd) : M.ret a w = .ok a w := rfl
@[simp] theorem fail_ap (w : Wd) : (M.fail : M α) w = .bad := rfl
@[simp] theorem raise_ap (c : Nat) (ns : List Str) (xs : List D) (w : Wd) : (M.raise c ns xs : M α) w = .ex c ns xs w := rfl
theorem bind_ap (m : M α) (f : α → M β) (w : Wd) : M.bind m f w = match m w with
  | .ok a w' => f a w' | .ex c ns xs w' => .ex c ns xs w' | .bad => .bad := rfl
@[simp] theorem ite_bind (p : Prop) [Decidable p] (a b : M α) (f : α → M β) : M.bind (if p then a else b) f = if p then M.bind a f else M.bind b f := by
  split <;> rfl
@[simp] theorem ite_ap (p : Prop) [Decidable p] (a b : M α) (w : Wd) : (if p then a else b) w = if p then a w else b w := by
  split <;> rfl
end
inductive Slot where
  | none
  | val (d : D)
  /-- a list of the def's own, that no one else holds -/
  | own (xs : List D)
  /-- an error that an except suite holds: its class, its fields -/
  | exc (c : Nat) (ns : List Str) (xs : List D)
  /-- the object that is being made (its first parameter's place) -/
  | slf
  /-- a list that the def has made; the lists in it are its own making, too -/
  | nest (ds : List D)
  deriving Inhabited
abbrev Env := List Slot
def vals (ds : List D) : Env := ds.map .val
def line : Nat := 16777216
def boolOf : D → M Bool
  | .bl b => M.ret b
  | _ => M.fail
def truth : D → M Bool
  | .non => M.ret false
  | .bl b => M.ret b
  | .int i => M.ret (i != 0)
  | .str x => if x.length ≤ line then M.ret ((x.length : Int) != 0) else M.fail
  | .tup xs => M.ret (!xs.isEmpty)
  | .lst xs => M.ret (!xs.isEmpty)
  | .frz xs => M.ret (!xs.isEmpty)
  | _ => M.fail
def addD : D → D → M D
  | .int i, .int j => M.ret (.int (i + j))
  | .str a, .str b => if a.length + b.length ≤ line then M.ret (.str (a ++ b)) else M.fail
  | .lst a, .lst b => if a.length + b.length ≤ line then M.ret (.lst (a ++ b)) else M.fail
  | .tup a, .tup b => if a ≠ [] ∧ a.length + b.length ≤ line then M.ret (.tup (a ++ b)) else M.fail
  | _, _ => M.fail
def subD : D → D → M D
  | .int i, .int j => M.ret (.int (i - j))
  | _, _ => M.fail
def mulD : D → D → M D
  | .int i, .int j => if i.natAbs.log2 + j.natAbs.log2 < 100000000 then M.ret (.int (i * j)) else M.fail
  | _, _ => M.fail
def fdivD : D → D → M D
  | .int i, .int j => if j ≠ 0 ∧ j.natAbs.log2 < 9000 then M.ret (.int (i.fdiv j)) else M.fail
  | _, _ => M.fail
def modD : D → D → M D
  | .int i, .int j => if j ≠ 0 then M.ret (.int (i.fmod j)) else M.fail
  | _, _ => M.fail
def powD : D → D → M D
  | .int i, .int j => if 0 ≤ j ∧ j ≤ 1000000 ∧ i.natAbs < 2 ^ 64 then M.ret (.int (i ^ j.toNat)) else M.fail
  | _, _ => M.fail
def negD : D → M D
  | .int i => M.ret (.int (-i))
  | _ => M.fail
def ltD : D → D → M D
  | .int i, .int j => M.ret (.bl (decide (i < j)))
  | _, _ => M.fail
def leD : D → D → M D
  | .int i, .int j => M.ret (.bl (decide (i ≤ j)))
  | _, _ => M.fail
def gtD : D → D → M D
  | .int i, .int j => M.ret (.bl (decide (j < i)))
  | _, _ => M.fail
def geD : D → D → M D
  | .int i, .int j => M.ret (.bl (decide (j ≤ i)))
  | _, _ => M.fail
mutual
def D.eqv : D → D → Bool
  | .non, .non => true
  | .bl a, .bl b => a == b
  | .bl a, .int j => (if a then 1 else 0) == j
  | .int i, .bl b => i == (if b then 1 else 0)
  | .int i, .int j => i == j
  | .str x, .str y => x == y
  | .lst xs, .lst ys => D.eqvL xs ys
  | .tup xs, .tup ys => D.eqvL xs ys
  | _, _ => false
def D.eqvL : List D → List D → Bool
  | [], [] => true
  | x :: xs, y :: ys => D.eqv x y && D.eqvL xs ys
  | _, _ => false
end
mutual
def D.flat : Nat → D → Bool
  | _, .non | _, .bl _ | _, .int _ => true
  | _, .str x => x.cps.all (· < 0x110000)
  | n + 1, .lst xs | n + 1, .tup xs => D.flatL n xs
  | _, _ => false
def D.flatL : Nat → List D → Bool
  | _, [] => true
  | n, x :: xs => D.flat n x && D.flatL n xs
end
def eqD (a b : D) : M D := if D.flat 60 a = true ∧ D.flat 60 b = true then M.ret (.bl (D.eqv a b)) else M.fail
def neD (a b : D) : M D := if D.flat 60 a = true ∧ D.flat 60 b = true then M.ret (.bl (!D.eqv a b)) else M.fail
def D.isNon : D → Bool
  | .non => true
  | _ => false
def isNonD (a : D) : D → M D
  | .non => M.ret (.bl a.isNon)
  | _ => M.fail
def notNonD (a : D) : D → M D
  | .non => M.ret (.bl (!a.isNon))
  | _ => M.fail
def isD : D → D → M D
  | .bl a, .bl b => M.ret (.bl (decide (a = b)))
  | _, _ => M.fail
def isNotD : D → D → M D
  | .bl a, .bl b => M.ret (.bl (!decide (a = b)))
  | _, _ => M.fail
def seqOf : D → M (List D)
  | .lst xs | .tup xs | .frz xs => M.ret xs
  | _ => M.fail
def ixP (len : Nat) (k : Int) : Option Nat := if 0 ≤ k ∧ k < len then some k.toNat else if k < 0 ∧ 0 ≤ k + len then some (k + len).toNat else none
def itemAt {α : Type} (xs : List α) (k : Int) : Option α := match ixP xs.length k with
  | some j => xs[j]?
  | none => none
def ixL (xs : List D) : D → M D
  | .int i => match itemAt xs i with
    | some d => M.ret d
    | none => M.fail
  | _ => M.fail
def ixD : D → D → M D
  | .lst xs, i => ixL xs i
  | .frz xs, i => ixL xs i
  | .tup xs, i => ixL xs i
  | .hand, i => fun w => match w with
    | some xs => ixL xs i w
    | none => .bad
  | _, _ => M.fail
def cutAt (len dflt : Nat) : Option Int → Nat
  | none => dflt
  | some k => if 0 ≤ k then min k.toNat len else (k + len).toNat
def cutL {α : Type} (xs : List α) (lo hi : Option Int) : List α :=
  let a := cutAt xs.length 0 lo
  (xs.drop a).take (cutAt xs.length xs.length hi - a)
def sliceD (x : D) (lo hi : Option Int) : M D := match x with
  | .lst xs => M.ret (.lst (cutL xs lo hi))
  | .tup xs => if ¬ (cutAt xs.length 0 lo = 0 ∧ cutAt xs.length xs.length hi = xs.length) then M.ret (.tup (cutL xs lo hi)) else M.fail
  | _ => M.fail
def lenD : D → M D
  | .str x => if x.length ≤ line then M.ret (.int x.length) else M.fail
  | .lst xs | .tup xs | .frz xs => M.ret (.int xs.length)
  | .hand => fun w => match w with
    | some xs => .ok (.int xs.length) w
    | none => .bad
  | _ => M.fail
theorem lenD_str (x : Str) : lenD (.str x) = if x.length ≤ line then M.ret (.int x.length) else M.fail := rfl
@[simp] theorem lenD_lst (xs : List D) : lenD (.lst xs) = M.ret (.int xs.length) := rfl
@[simp] theorem lenD_tup (xs : List D) : lenD (.tup xs) = M.ret (.int xs.length) := rfl
@[simp] theorem lenD_frz (xs : List D) : lenD (.frz xs) = M.ret (.int xs.length) := rfl
def tupD : D → M D
  | .lst xs | .tup xs => M.ret (.tup xs)
  | _ => M.fail
def listD : D → M D
  | .lst xs | .tup xs => M.ret (.lst xs)
  | _ => M.fail
def rangeL (lo hi : Int) : List D := (List.range (hi - lo).toNat).map fun (k : Nat) => D.int (lo + (k : Int))
def near (i : Int) : Bool := Nat.ble i.natAbs 2305843009213693952
theorem near_of {i : Int} (h : near i = true) : -(2 ^ 62) ≤ i ∧ i < 2 ^ 62 := by
  have := Nat.le_of_ble_eq_true h
  omega
theorem of_near {i : Int} (h : -(2 ^ 61) ≤ i ∧ i < 2 ^ 61) : near i = true := Nat.ble_eq_true_of_le (by omega)
def rangeM (lo hi : D) : M (List D) := match lo, hi with
  | .int i, .int j => if (near i && near j) = true then M.ret (rangeL i j) else M.fail
  | _, _ => M.fail
def enumL (xs : List D) : List D := (xs.zipIdx).map fun p => D.tup [.int (p.2 : Int), p.1]
def zipL (xs ys : List D) : List D := (xs.zip ys).map fun p => D.tup [p.1, p.2]
def intD : D → M D
  | .int i => M.ret (.int i)
  | .bl b => M.ret (.int (if b then 1 else 0))
  | _ => M.fail
def absD : D → M D
  | .int i => M.ret (.int (if i < 0 then -i else i))
  | _ => M.fail
def gcdD : D → D → M D
  | .int a, .int b => M.ret (.int ((Nat.gcd a.natAbs b.natAbs : Nat) : Int))
  | _, _ => M.fail
inductive Ty where
  | int | bool | str | tuple | list | dict
  | cls (c : Nat)
  deriving DecidableEq
def isT : Ty → D → Bool
  | .int, .int _ | .int, .bl _ | .bool, .bl _ | .str, .str _ | .tuple, .tup _ | .list, .lst _ | .list, .frz _ | .list, .hand => true
  | .cls c, .ins c' _ _ => c == c'
  | _, _ => false
abbrev EF := Env → M D
abbrev TF := Env → M Bool
def eVar (i : Nat) : EF := fun ρ => match ρ[i]? with
  | some (.val d) => M.ret d
  | some (.nest ds) => M.ret (.lst ds)
  | _ => M.fail
def eC (d : D) : EF := fun _ => M.ret d
def eUn (f : D → M D) (a : EF) : EF := fun ρ => M.bind (a ρ) f
def eBin (f : D → D → M D) (a b : EF) : EF := fun ρ => M.bind (a ρ) fun x => M.bind (b ρ) fun y => f x y
def evs : List EF → Env → M (List D)
  | [], _ => M.ret []
  | e :: es, ρ => M.bind (e ρ) fun x => M.bind (evs es ρ) fun xs => M.ret (x :: xs)
def eTup (es : List EF) : EF := fun ρ => M.bind (evs es ρ) fun xs => M.ret (.tup xs)
def eLst (es : List EF) : EF := fun ρ => M.bind (evs es ρ) fun xs => M.ret (.lst xs)
def eCall (F : List D → M D) (es : List EF) : EF := fun ρ => M.bind (evs es ρ) F
def eIf (t : TF) (a b : EF) : EF := fun ρ => M.bind (t ρ) fun c => if c = true then a ρ else b ρ
def eAnd (a b : EF) : EF := fun ρ => M.bind (a ρ) fun x => M.bind (boolOf x) fun c => if c = true then b ρ else M.ret (.bl false)
def eOr (a b : EF) : EF := fun ρ => M.bind (a ρ) fun x => M.bind (boolOf x) fun c => if c = true then M.ret (.bl true) else b ρ
def eNot (t : TF) : EF := fun ρ => M.bind (t ρ) fun c => M.ret (.bl (!c))
def eChain (f g : D → D → M D) (a b c : EF) : EF := fun ρ => M.bind (a ρ) fun x => M.bind (b ρ) fun y => M.bind (f x y) fun r => M.bind (boolOf r) fun k =>
  if k = true then M.bind (c ρ) fun z => g y z else M.ret (.bl false)
def eSlice (a : EF) (lo hi : Option EF) : EF := fun ρ => M.bind (a ρ) fun x =>
  M.bind (match lo with | none => M.ret none | some e => M.bind (e ρ) fun y => match y with | .int i => M.ret (some i) | _ => M.fail) fun l =>
  M.bind (match hi with | none => M.ret none | some e => M.bind (e ρ) fun y => match y with | .int i => M.ret (some i) | _ => M.fail) fun h => sliceD x l h
def eHand (es : List EF) : EF := fun ρ => M.bind (evs es ρ) fun xs => fun w => match w with
  | none => .ok .hand (some xs)
  | some _ => .bad
def fldOf (f : Str) : List Str → List D → Option D
  | n :: ns, x :: xs => match fldOf f ns xs with
    | some d => some d
    | none => if n = f then some x else none
  | _, _ => none
def eXf (i : Nat) (f : Str) : EF := fun ρ => match ρ[i]? with
  | some (.exc _ ns xs) => match fldOf f ns xs with
    | some d => M.ret d
    | none => M.fail
  | _ => M.fail
def tVal (e : EF) : TF := fun ρ => M.bind (e ρ) boolOf
def tTru (e : EF) : TF := fun ρ => M.bind (e ρ) truth
def tAnd (a b : TF) : TF := fun ρ => M.bind (a ρ) fun c => if c = true then b ρ else M.ret false
def tOr (a b : TF) : TF := fun ρ => M.bind (a ρ) fun c => if c = true then M.ret true else b ρ
def tNot (a : TF) : TF := fun ρ => M.bind (a ρ) fun c => M.ret (!c)
def tYes : TF := fun _ => M.ret true
abbrev IF := Env → M (List D)
def iSeq (e : EF) : IF := fun ρ => M.bind (e ρ) seqOf
def iRng (lo hi : EF) : IF := fun ρ => M.bind (lo ρ) fun x => M.bind (hi ρ) fun y => rangeM x y
def iEnum (e : EF) : IF := fun ρ => M.bind (e ρ) fun x => M.bind (seqOf x) fun xs => M.ret (enumL xs)
abbrev GF := D → Env → Option Env
def gN (i : Nat) : GF := fun d ρ => some (ρ.set i (.val d))
def gAll : List Nat → List D → Env → Option Env
  | [], [], ρ => some ρ
  | i :: is, d :: ds, ρ => gAll is ds (ρ.set i (.val d))
  | _, _, _ => none
def gT (is : List Nat) : GF := fun d ρ => match d with
  | .tup ds => gAll is ds ρ
  | _ => none
def noEx {α : Type} (m : M α) : M α := fun w => match m w with
  | .ok a w' => .ok a w'
  | _ => .bad
@[simp] theorem noEx_ret {α : Type} (a : α) : noEx (M.ret a) = M.ret a := rfl
theorem noEx_ap {α : Type} {m : M α} {w w' : Wd} {a : α} (h : m w = .ok a w') : noEx m w = .ok a w' := by unfold noEx; rw [h]
def lcL (g : GF) (t : TF) (e : EF) (ρ : Env) : List D → M (List D)
  | [] => M.ret []
  | x :: xs => match g x ρ with
    | none => M.fail
    | some ρ1 => M.bind (noEx (t ρ1)) fun c => if c = true then M.bind (noEx (e ρ1)) fun y => M.bind (lcL g t e ρ xs) fun ys => M.ret (y :: ys) else lcL g t e ρ xs
theorem lcL_cons {g : GF} {t : TF} {e : EF} {ρ ρ1 : Env} {x : D} {xs : List D} (eg : g x ρ = some ρ1) : lcL g t e ρ (x :: xs) =
    M.bind (noEx (t ρ1)) fun c => if c = true then M.bind (noEx (e ρ1)) fun y => M.bind (lcL g t e ρ xs) fun ys => M.ret (y :: ys) else lcL g t e ρ xs := by
  conv => lhs; unfold lcL
  rw [eg]
theorem lcL_true {β : Type} {g : GF} {t : TF} {e : EF} {ρ ρ1 : Env} {x d : D} {xs : List D} {w w3 w5 : Wd} {k : List D → M β} (eg : g x ρ = some ρ1) (et : t ρ1 w = .ok true w3) (ee : e ρ1 w3 = .ok d w5) :
    M.bind (lcL g t e ρ (x :: xs)) k w = M.bind (lcL g t e ρ xs) (fun ys => k (d :: ys)) w5 := by
  rw [lcL_cons eg]
  simp only [bind_bind, ret_bind]
  rw [bind_ap, noEx_ap et]
  simp only [if_true, bind_bind, ret_bind]
  rw [bind_ap, noEx_ap ee]
theorem lcL_false {β : Type} {g : GF} {t : TF} {e : EF} {ρ ρ1 : Env} {x : D} {xs : List D} {w w3 : Wd} {k : List D → M β} (eg : g x ρ = some ρ1) (et : t ρ1 w = .ok false w3) :
    M.bind (lcL g t e ρ (x :: xs)) k w = M.bind (lcL g t e ρ xs) k w3 := by
  rw [lcL_cons eg]
  simp only [bind_bind, ret_bind]
  rw [bind_ap, noEx_ap et]
  simp only [Bool.false_eq_true, if_false]
theorem noEx_bad {α : Type} {m : M α} {w : Wd} (h : ∀ a w', m w ≠ .ok a w') : noEx m w = .bad := by
  unfold noEx
  split
  · rename_i a w' e; exact absurd e (h a w')
  · rfl
theorem lcL_badt {β : Type} {g : GF} {t : TF} {e : EF} {ρ ρ1 : Env} {x : D} {xs : List D} {w : Wd} {k : List D → M β} (eg : g x ρ = some ρ1) (et : ∀ a w', t ρ1 w ≠ .ok a w') :
    M.bind (lcL g t e ρ (x :: xs)) k w = .bad := by
  rw [lcL_cons eg]
  simp only [bind_bind]
  rw [bind_ap, noEx_bad et]
theorem lcL_bade {β : Type} {g : GF} {t : TF} {e : EF} {ρ ρ1 : Env} {x : D} {xs : List D} {w w3 : Wd} {k : List D → M β} (eg : g x ρ = some ρ1) (et : t ρ1 w = .ok true w3) (ee : ∀ a w', e ρ1 w3 ≠ .ok a w') :
    M.bind (lcL g t e ρ (x :: xs)) k w = .bad := by
  rw [lcL_cons eg]
  simp only [bind_bind, ret_bind]
  rw [bind_ap, noEx_ap et]
  simp only [if_true, bind_bind, ret_bind]
  rw [bind_ap, noEx_bad ee]
def wipeE (ρ : Env) : List Nat → Env
  | [] => ρ
  | i :: is => (wipeE ρ is).set i .none
def nLc (src : IF) (is : List Nat) (g : GF) (t : TF) (e : EF) : Env → M (List D) := fun ρ => M.bind (src ρ) fun xs => if xs.length ≤ line then lcL g t e (wipeE ρ is) xs else M.fail
def eNew (f : Env → M (List D)) : EF := fun ρ => M.bind (f ρ) fun ys => M.ret (.lst ys)
inductive SR where
  | nx (ρ : Env) (w : Wd) | rt (d : D) (w : Wd) | bk (ρ : Env) (w : Wd) | ct (ρ : Env) (w : Wd)
  | ex (c : Nat) (ns : List Str) (xs : List D) (ρ : Env) (w : Wd)
  | bad
abbrev SF := Env → Wd → SR
def onE {α : Type} (m : M α) (ρ : Env) (w : Wd) (k : α → Wd → SR) : SR := match m w with
  | .ok a w' => k a w'
  | .ex c ns xs w' => .ex c ns xs ρ w'
  | .bad => .bad
def sNext : SF := fun ρ w => .nx ρ w
def sSeq (s t : SF) : SF := fun ρ w => match s ρ w with
  | .nx ρ' w' => t ρ' w'
  | r => r
def sSet (i : Nat) (e : EF) : SF := fun ρ w => onE (e ρ) ρ w fun d w' => .nx (ρ.set i (.val d)) w'
def sOwn (i : Nat) (f : Env → M (List D)) : SF := fun ρ w => onE (f ρ) ρ w fun ds w' => .nx (ρ.set i (.own ds)) w'
def sFrz (i : Nat) : SF := fun ρ w => match ρ[i]? with
  | some (.own xs) => .nx (ρ.set i (.val (.lst xs))) w
  | _ => .bad
def sApp (i : Nat) (e : EF) : SF := fun ρ w => match ρ[i]? with
  | some (.own xs) => onE (e ρ) ρ w fun d w' => if xs.length < line then .nx (ρ.set i (.own (xs ++ [d]))) w' else .bad
  | _ => .bad
def sExpr (e : EF) : SF := fun ρ w => onE (e ρ) ρ w fun _ w' => .nx ρ w'
def sRet (e : EF) : SF := fun ρ w => onE (e ρ) ρ w fun d w' => .rt d w'
def sRetOwn (i : Nat) : SF := fun ρ w => match ρ[i]? with
  | some (.own xs) => .rt (.lst xs) w
  | _ => .bad
def sRetN : SF := fun _ w => .rt .non w
def sIf (t : TF) (a b : SF) : SF := fun ρ w => onE (t ρ) ρ w fun c w' => if c = true then a ρ w' else b ρ w'
def sBrk : SF := fun ρ w => .bk ρ w
def sCnt : SF := fun ρ w => .ct ρ w
def sUnp (is : List Nat) (e : EF) : SF := fun ρ w => onE (e ρ) ρ w fun d w' => match gT is d ρ with
  | some ρ' => .nx ρ' w'
  | none => .bad
def sPar (i j : Nat) (a b : EF) : SF := fun ρ w => onE (evs [a, b] ρ) ρ w fun xs w' => match xs with
  | [x, y] => .nx ((ρ.set i (.val x)).set j (.val y)) w'
  | _ => .bad
def hsK (ρ : Env) (xs : List D) (w : Wd) : SR := match xs, w with
  | [d, .hand, .int i], some hs => match ixP hs.length i with
    | some j => .nx ρ (some (hs.set j d))
    | none => .bad
  | _, _ => .bad
def sHSet (h k e : EF) : SF := fun ρ w => onE (M.bind (e ρ) fun d => M.bind (h ρ) fun o => M.bind (k ρ) fun j => M.ret [d, o, j]) ρ w (hsK ρ)
def sRaise (c : Nat) (ns : List Str) (es : List EF) : SF := fun ρ w => onE (evs es ρ) ρ w fun xs w' => .ex c ns xs ρ w'
def loopK (r : SR) (k : Env → Wd → SR) : SR := match r with
  | .nx ρ' w' => k ρ' w'
  | .ct ρ' w' => k ρ' w'
  | .bk ρ' w' => .nx ρ' w'
  | r => r
def forL (g : GF) (b : SF) : List D → Env → Wd → SR
  | [], ρ, w => .nx ρ w
  | x :: xs, ρ, w => match g x ρ with
    | none => .bad
    | some ρ1 => loopK (b ρ1 w) fun ρ' w' => forL g b xs ρ' w'
theorem forL_cons {g : GF} {b : SF} {x : D} {xs : List D} {ρ ρ1 : Env} {w : Wd} (h : g x ρ = some ρ1) : forL g b (x :: xs) ρ w = loopK (b ρ1 w) fun ρ' w' => forL g b xs ρ' w' := by
  show (match g x ρ with | none => SR.bad | some ρ1 => loopK (b ρ1 w) fun ρ' w' => forL g b xs ρ' w') = _
  rw [h]
theorem forL_none {g : GF} {b : SF} {x : D} {xs : List D} {ρ : Env} {w : Wd} (h : g x ρ = none) : forL g b (x :: xs) ρ w = .bad := by
  show (match g x ρ with | none => SR.bad | some ρ1 => loopK (b ρ1 w) fun ρ' w' => forL g b xs ρ' w') = _
  rw [h]
def sFor (src : IF) (g : GF) (b : SF) : SF := fun ρ w => onE (src ρ) ρ w fun xs w' => forL g b xs ρ w'
def whileL (t : TF) (b : SF) : Nat → Env → Wd → SR
  | 0, _, _ => .bad
  | n + 1, ρ, w => onE (t ρ) ρ w fun c w' => if c = true then loopK (b ρ w') fun ρ' w2 => whileL t b n ρ' w2 else .nx ρ w'
def sWhile (fuel : Env → Wd → Nat) (t : TF) (b : SF) : SF := fun ρ w => whileL t b (fuel ρ w) ρ w
def wipeX (ρ : Env) : Env := ρ.map fun s => match s with
  | .exc _ _ _ | .slf => .none
  | s => s
def suiteK (i : Nat) (r : SR) : SR := match r with
  | .nx ρ2 w2 => .nx (wipeX (ρ2.set i .none)) w2
  | .bk ρ2 w2 => .bk (wipeX (ρ2.set i .none)) w2
  | .ct ρ2 w2 => .ct (wipeX (ρ2.set i .none)) w2
  | .rt d w2 => .rt d w2
  | _ => .bad
def sTry (body : SF) (cs ks : List Nat) (i : Nat) (suite : SF) : SF := fun ρ w => match body ρ w with
  | .ex c ns xs ρ' w' => if c ∈ cs then suiteK i (suite (ρ'.set i (.exc c ns xs)) w') else if c ∈ ks then .ex c ns xs ρ' w' else .bad
  | r => r
def callF (n : Nat) (b : SF) (ds : List D) : M D := fun w => match b (vals ds ++ List.replicate (n - ds.length) .none) w with
  | .nx _ w' => .ok .non w'
  | .rt d w' => .ok d w'
  | .ex c ns xs _ w' => .ex c ns xs w'
  | _ => .bad
end FL
namespace FL
open PySem
open L2 (V Hp HO Cx Inv VK TE TT TA TS TI TG PE PT PA PS PSs PI PG Ends XK WX RelV Vals Rd upd upd_same upd_ne ne_of_none)
abbrev NS := Addr → Prop
abbrev St := L2.St
section rep
variable (K : PySem.W.Frag) (cm : Nat → Addr)
def KL (a : Addr) (xs : List V) : Prop := ∃ (o : Obj) (its : Array Value) (n : Nat), K.lookup a = some o ∧ o.cls = .type "list" ∧ o.dict = none ∧ o.data = .seq its n ∧ its.size ≤ sizeLine ∧ Vals xs its.toList
def KT (a : Addr) (xs : List V) : Prop := ∃ (o : Obj) (its : Array Value) (n : Nat), K.lookup a = some o ∧ o.cls = .type "tuple" ∧ o.data = .seq its n ∧ its.size ≤ sizeLine ∧ Vals xs its.toList
def LN (H : Hp) (N : NS) (a : Addr) (xs : List V) : Prop := (¬ N a ∧ Rd H a (.lst xs)) ∨ KL K a xs
def TN (H : Hp) (N : NS) (a : Addr) (xs : List V) : Prop := (¬ N a ∧ Rd H a (.tup xs)) ∨ KT K a xs
mutual
def Rep (H : Hp) (N : NS) (ph : Option Addr) : D → V → Prop
  | .non, v => v = .non
  | .bl b, v => v = .bl b
  | .int i, v => v = .int i
  | .str x, v => v = .str x
  | .tup ds, v => ∃ a vs, v = .ref a ∧ TN K H N a vs ∧ RepL H N ph ds vs
  | .lst ds, v => ∃ a vs, v = .ref a ∧ (¬ N a ∧ H a = some (.lst vs)) ∧ RepL H N ph ds vs
  | .frz ds, v => ∃ a vs, v = .ref a ∧ LN K H N a vs ∧ RepL H N ph ds vs
  | .ins c ns ds, v => ∃ a dx vs, v = .ref a ∧ ¬ N a ∧ H a = some (.ins (cm c) dx (ns.zip vs)) ∧ ns.length = vs.length ∧ RepL H N ph ds vs
  | .hand, v => ∃ p, ph = some p ∧ v = .ref p
def RepL (H : Hp) (N : NS) (ph : Option Addr) : List D → List V → Prop
  | [], vs => vs = []
  | d :: ds, vs => ∃ v r, vs = v :: r ∧ Rep H N ph d v ∧ RepL H N ph ds r
end
end rep
section
variable {K : PySem.W.Frag} {cm : Nat → Addr} {H H' H1 H2 : Hp} {N N' N1 N2 : NS} {ph ph' ph1 ph2 : Option Addr} {a p : Addr} {xs : List V}
theorem LN.seq (h : LN K H N a xs) : L2.SqL K H a xs := h.elim (fun h => .inl h.2) .inr
theorem TN.seq (h : TN K H N a xs) : L2.SqT K H a xs := h.elim (fun h => .inl h.2) .inr
def Keep (H : Hp) (N : NS) (H' : Hp) (N' : NS) : Prop := (∀ b o, ¬ N b → H b = some o → H' b = some o) ∧ (∀ b o, H b = some o → N' b → N b)
theorem Keep.refl : Keep H N H N := ⟨fun _ _ _ h => h, fun _ _ _ h => h⟩
theorem Keep.trans (x : Keep H N H1 N1) (y : Keep H1 N1 H2 N2) : Keep H N H2 N2 := by
  refine ⟨fun b o n h => y.1 b o (fun q => n (x.2 b o h q)) (x.1 b o n h), fun b o h q => ?_⟩
  by_cases n : N b
  · exact n
  · exact x.2 b o h (y.2 b o (x.1 b o n h) q)
theorem Rd.keep {u : HO} (k : Keep H N H' N') (n : ¬ N a) (h : Rd H a u) : ¬ N' a ∧ Rd H' a u := by
  rcases h with h | ⟨o, h⟩
  · exact ⟨fun q => n (k.2 _ _ h q), .inl (k.1 _ _ n h)⟩
  · exact ⟨fun q => n (k.2 _ _ h q), .inr ⟨o, k.1 _ _ n h⟩⟩
theorem LN.keep (k : Keep H N H' N') (h : LN K H N a xs) : LN K H' N' a xs := by
  rcases h with ⟨n, h⟩ | h
  · exact .inl (Rd.keep k n h)
  · exact .inr h
theorem TN.keep (k : Keep H N H' N') (h : TN K H N a xs) : TN K H' N' a xs := by
  rcases h with ⟨n, h⟩ | h
  · exact .inl (Rd.keep k n h)
  · exact .inr h
def PhM (ph ph' : Option Addr) : Prop := ∀ p, ph = some p → ph' = some p
mutual
theorem Rep.keep (k : Keep H N H' N') (hp : PhM ph ph') : ∀ (d : D) (v : V), Rep K cm H N ph d v → Rep K cm H' N' ph' d v
  | .non, _, h => by simpa [Rep] using h
  | .bl _, _, h => by simpa [Rep] using h
  | .int _, _, h => by simpa [Rep] using h
  | .str _, _, h => by simpa [Rep] using h
  | .tup ds, v, h => by
    simp only [Rep] at h ⊢
    obtain ⟨a, vs, e, t, r⟩ := h
    exact ⟨a, vs, e, t.keep k, RepL.keep k hp ds vs r⟩
  | .lst ds, v, h => by
    simp only [Rep] at h ⊢
    obtain ⟨a, vs, e, ⟨n, t⟩, r⟩ := h
    exact ⟨a, vs, e, ⟨fun q => n (k.2 _ _ t q), k.1 _ _ n t⟩, RepL.keep k hp ds vs r⟩
  | .frz ds, v, h => by
    simp only [Rep] at h ⊢
    obtain ⟨a, vs, e, t, r⟩ := h
    exact ⟨a, vs, e, t.keep k, RepL.keep k hp ds vs r⟩
  | .ins c ns ds, v, h => by
    simp only [Rep] at h ⊢
    obtain ⟨a, dx, vs, e, n, t, l, r⟩ := h
    exact ⟨a, dx, vs, e, fun q => n (k.2 _ _ t q), k.1 _ _ n t, l, RepL.keep k hp ds vs r⟩
  | .hand, v, h => by
    simp only [Rep] at h ⊢
    obtain ⟨p, e, q⟩ := h
    exact ⟨p, hp p e, q⟩
theorem RepL.keep (k : Keep H N H' N') (hp : PhM ph ph') : ∀ (ds : List D) (vs : List V), RepL K cm H N ph ds vs → RepL K cm H' N' ph' ds vs
  | [], _, h => by simpa [RepL] using h
  | d :: ds, vs, h => by
    simp only [RepL] at h ⊢
    obtain ⟨v, r, e, h1, h2⟩ := h
    exact ⟨v, r, e, Rep.keep k hp d v h1, RepL.keep k hp ds r h2⟩
end
theorem RepL.length : ∀ {ds : List D} {vs : List V}, RepL K cm H N ph ds vs → ds.length = vs.length
  | [], _, h => by simp only [RepL] at h; subst h; rfl
  | d :: ds, vs, h => by
    simp only [RepL] at h
    obtain ⟨v, r, rfl, _, h2⟩ := h
    simp [RepL.length h2]
theorem RepL.get : ∀ {ds : List D} {vs : List V} {i : Nat} {d : D}, RepL K cm H N ph ds vs → ds[i]? = some d → ∃ v, vs[i]? = some v ∧ Rep K cm H N ph d v
  | [], _, _, _, _, h => by simp at h
  | d :: ds, vs, i, d', h, e => by
    simp only [RepL] at h
    obtain ⟨v, r, rfl, h1, h2⟩ := h
    cases i with
    | zero => simp at e; subst e; exact ⟨v, rfl, h1⟩
    | succ i => exact RepL.get (i := i) h2 (by simpa using e)
theorem RepL.got : ∀ {ds : List D} {vs : List V} {i : Nat} {v : V}, RepL K cm H N ph ds vs → vs[i]? = some v → ∃ d, ds[i]? = some d ∧ Rep K cm H N ph d v
  | [], _, _, _, h, e => by simp only [RepL] at h; subst h; simp at e
  | d :: ds, vs, i, v', h, e => by
    simp only [RepL] at h
    obtain ⟨v, r, rfl, h1, h2⟩ := h
    cases i with
    | zero => simp at e; subst e; exact ⟨d, rfl, h1⟩
    | succ i => exact RepL.got (i := i) h2 (by simpa using e)
theorem RepL.append : ∀ {ds es : List D} {vs ws : List V}, RepL K cm H N ph ds vs → RepL K cm H N ph es ws → RepL K cm H N ph (ds ++ es) (vs ++ ws)
  | [], _, _, _, h, q => by simp only [RepL] at h; subst h; exact q
  | d :: ds, es, vs, ws, h, q => by
    simp only [RepL] at h
    obtain ⟨v, r, rfl, h1, h2⟩ := h
    simp only [List.cons_append, RepL]
    exact ⟨v, r ++ ws, rfl, h1, RepL.append h2 q⟩
theorem RepL.one {d : D} {v : V} (h : Rep K cm H N ph d v) : RepL K cm H N ph [d] [v] := by
  simp only [RepL]; exact ⟨v, [], rfl, h, rfl⟩
theorem RepL.cons {d : D} {v : V} {ds : List D} {vs : List V} (h : Rep K cm H N ph d v) (q : RepL K cm H N ph ds vs) : RepL K cm H N ph (d :: ds) (v :: vs) := by
  simp only [RepL]; exact ⟨v, vs, rfl, h, q⟩
theorem RepL.nil : RepL K cm H N ph [] [] := by simp only [RepL]
theorem RepL.uncons {d : D} {ds : List D} {vs : List V} (h : RepL K cm H N ph (d :: ds) vs) : ∃ v r, vs = v :: r ∧ Rep K cm H N ph d v ∧ RepL K cm H N ph ds r := by
  simpa only [RepL] using h
theorem RepL.unnil {vs : List V} (h : RepL K cm H N ph [] vs) : vs = [] := by simpa only [RepL] using h
theorem RepL.set : ∀ {ds : List D} {vs : List V} {i : Nat} {d : D} {v : V}, RepL K cm H N ph ds vs → Rep K cm H N ph d v → RepL K cm H N ph (ds.set i d) (vs.set i v)
  | [], _, _, _, _, h, _ => by simp only [RepL] at h; subst h; simpa using RepL.nil
  | e :: ds, vs, i, d, v, h, q => by
    obtain ⟨x, r, rfl, h1, h2⟩ := h.uncons
    cases i with
    | zero => exact RepL.cons q h2
    | succ i => exact RepL.cons h1 (RepL.set h2 q)
theorem RepL.drop : ∀ {ds : List D} {vs : List V} (n : Nat), RepL K cm H N ph ds vs → RepL K cm H N ph (ds.drop n) (vs.drop n)
  | ds, vs, 0, h => h
  | [], _, n + 1, h => by cases h.unnil; exact RepL.nil
  | d :: ds, vs, n + 1, h => by
    obtain ⟨x, r, rfl, h1, h2⟩ := h.uncons
    exact RepL.drop n h2
theorem RepL.take : ∀ {ds : List D} {vs : List V} (n : Nat), RepL K cm H N ph ds vs → RepL K cm H N ph (ds.take n) (vs.take n)
  | ds, vs, 0, h => RepL.nil
  | [], _, n + 1, h => by cases h.unnil; exact RepL.nil
  | d :: ds, vs, n + 1, h => by
    obtain ⟨x, r, rfl, h1, h2⟩ := h.uncons
    exact RepL.cons h1 (RepL.take n h2)
theorem RepL.reverse : ∀ {ds : List D} {vs : List V}, RepL K cm H N ph ds vs → RepL K cm H N ph ds.reverse vs.reverse
  | [], _, h => by cases h.unnil; exact RepL.nil
  | d :: ds, vs, h => by
    obtain ⟨x, r, rfl, h1, h2⟩ := h.uncons
    rw [List.reverse_cons, List.reverse_cons]
    exact (RepL.reverse h2).append (RepL.one h1)
def OO (O : NS) (ph : Option Addr) : NS := fun a => O a ∨ ph = some a
def HandOk (K : PySem.W.Frag) (cm : Nat → Addr) (H : Hp) (O : NS) : Option Addr → Wd → Prop
  | none, none => True
  | some p, some hs => ∃ vs, H p = some (.lst vs) ∧ RepL K cm H (OO O (some p)) (some p) hs vs
  | _, _ => False
def Ext (ph : Option Addr) (H H' : Hp) : Prop := ∀ b o, ph ≠ some b → H b = some o → H' b = some o
def PhS (H : Hp) (ph ph' : Option Addr) : Prop := ph' = ph ∨ (ph = none ∧ ∃ p, ph' = some p ∧ H p = none)
theorem PhS.m (h : PhS H ph ph') : PhM ph ph' := fun p e => by
  rcases h with h | ⟨h, _⟩
  · rw [h]; exact e
  · rw [h] at e; cases e
theorem Ext.refl : Ext ph H H := fun _ _ _ h => h
theorem PhS.refl : PhS H ph ph := .inl rfl
theorem Ext.trans (x : Ext ph H H1) (s : PhS H ph ph1) (y : Ext ph1 H1 H2) : Ext ph H H2 := fun b o n h => by
  refine y b o (fun q => ?_) (x b o n h)
  rcases s with s | ⟨_, p, s, hp⟩
  · exact n (s ▸ q)
  · rw [s] at q; cases q; rw [hp] at h; cases h
theorem PhS.trans (x : Ext ph H H1) (s : PhS H ph ph1) (t : PhS H1 ph1 ph2) : PhS H ph ph2 := by
  rcases s with s | ⟨s0, p, s1, hp⟩
  · subst s
    rcases t with t | ⟨t0, p, t1, hp⟩
    · exact .inl t
    · refine .inr ⟨t0, p, t1, ?_⟩
      cases q : H p with
      | none => rfl
      | some o => rw [x p o (by rw [t0]; exact fun z => nomatch z) q] at hp; cases hp
  · rcases t with t | ⟨t0, _⟩
    · exact .inr ⟨s0, p, t.trans s1, hp⟩
    · rw [s1] at t0; cases t0
def OwnO (o : HO) : Prop := (∃ vs, o = .lst vs) ∨ ∃ C dx fs, o = .ins C dx fs
theorem OwnO.lst (vs : List V) : OwnO (.lst vs) := .inl ⟨vs, rfl⟩
def OTr (H : Hp) (O : NS) (ph : Option Addr) : Prop := ∀ a, O a → ph ≠ some a ∧ ∃ o, H a = some o ∧ OwnO o
theorem Ext.keep {O : NS} (x : Ext ph H H') (s : PhS H ph ph') : Keep H (OO O ph) H' (OO O ph') := by
  refine ⟨fun b o n h => x b o (fun q => n (.inr q)) h, fun b o h q => ?_⟩
  rcases q with q | q
  · exact .inl q
  · rcases s with s | ⟨_, p, s, hp⟩
    · exact .inr (s ▸ q)
    · rw [s] at q; cases q; rw [hp] at h; cases h
theorem OTr.ext {O : NS} (x : Ext ph H H') (s : PhS H ph ph') (h : OTr H O ph) : OTr H' O ph' := fun a o => by
  obtain ⟨n, u, e, k⟩ := h a o
  refine ⟨fun q => ?_, u, x a _ n e, k⟩
  rcases s with s | ⟨_, p, s, hp⟩
  · exact n (s ▸ q)
  · rw [s] at q; cases q; rw [hp] at e; cases e
theorem ext_new {o : HO} (hp : H p = none) : Ext ph H (upd H p o) := fun b u _ h => by rw [upd_ne (ne_of_none h hp)]; exact h
theorem HandOk.tr {O : NS} {w : Wd} (h : HandOk K cm H O ph w) {a : Addr} (e : ph = some a) : ∃ vs, H a = some (.lst vs) := by
  subst e
  cases w with
  | none => exact h.elim
  | some hs => obtain ⟨vs, h1, _⟩ := h; exact ⟨vs, h1⟩
theorem fresh_oo {O : NS} {w : Wd} (t : OTr H O ph) (h : HandOk K cm H O ph w) (hp : H p = none) : ¬ OO O ph p := fun q => by
  rcases q with q | q
  · obtain ⟨_, vs, e, _⟩ := t p q; rw [hp] at e; cases e
  · obtain ⟨vs, e⟩ := h.tr q; rw [hp] at e; cases e
theorem HandOk.keep {O O' : NS} {w : Wd} (h : HandOk K cm H O ph w) (k : Keep H (OO O ph) H' (OO O' ph)) (hh : ∀ p, ph = some p → ∀ o, H p = some o → H' p = some o) : HandOk K cm H' O' ph w := by
  cases ph with
  | none => cases w with
    | none => trivial
    | some hs => exact h.elim
  | some p =>
    cases w with
    | none => exact h.elim
    | some hs =>
      obtain ⟨vs, h1, h2⟩ := h
      exact ⟨vs, hh p rfl _ h1, h2.keep k (fun _ e => e) hs vs⟩
theorem HandOk.new {O : NS} {w : Wd} {o : HO} (h : HandOk K cm H O ph w) (hp : H p = none) : HandOk K cm (upd H p o) O ph w :=
  h.keep (Ext.keep (ext_new hp) PhS.refl) fun q _ u e => by rw [upd_ne (ne_of_none e hp)]; exact e
end
end FL
namespace FL
open PySem
open L2 (V Hp HO Cx Inv VK TE TT TA TS TI TG PE PT PA PS PSs PI PG Ends XK WX RelV Vals Rd upd upd_same upd_ne ne_of_none EP TP AP OpR R2 CallR FnOk Room Binds)
section
variable (K : PySem.W.Frag) (cm : Nat → Addr) (xa : Option (Addr × Nat × Addr)) (O : NS)
def SlotR (H : Hp) (ph : Option Addr) : Slot → Option V → Prop
  | .none, _ => True
  | .val d, x => ∃ v, x = some v ∧ Rep K cm H (OO O ph) ph d v
  | .nest ds, x => ∃ v, x = some v ∧ Rep K cm H (OO O ph) ph (.lst ds) v
  | .own ds, x => ∃ p vs, x = some (.ref p) ∧ O p ∧ H p = some (.lst vs) ∧ RepL K cm H (OO O ph) ph ds vs
  | .slf, x => ∃ a k dd, x = some (.ref a) ∧ xa = some (a, k, dd)
  | .exc c ns ds, x => ∃ a dd vs, x = some (.ref a) ∧ xa = some (a, c, dd) ∧ ¬ OO O ph dd ∧ H dd = some (.xd (ns.zip vs).reverse) ∧ ns.length = vs.length ∧ RepL K cm H (OO O ph) ph ds vs
structure EnvE (H : Hp) (ph : Option Addr) (ρ : Env) (σ : St) : Prop where
  len : σ.length = ρ.length
  at_ : ∀ (i : Nat) s x, ρ[i]? = some s → σ[i]? = some x → SlotR K cm xa O H ph s x
  tr : OTr H O ph
end
section
variable {K : PySem.W.Frag} {cm : Nat → Addr} {xa : Option (Addr × Nat × Addr)} {O O' : NS} {H H' H1 H2 : Hp} {ph ph' ph1 ph2 : Option Addr} {ρ : Env} {σ : St} {w w' : Wd}
theorem SlotR.keep {s : Slot} {x : Option V} (k : Keep H (OO O ph) H' (OO O' ph')) (m : PhM ph ph') (ho : ∀ ds p, s = .own ds → x = some (.ref p) → O p → O' p ∧ ∀ o, H p = some o → H' p = some o) (h : SlotR K cm xa O H ph s x) : SlotR K cm xa O' H' ph' s x := by
  cases s with
  | none => trivial
  | val d =>
    obtain ⟨v, e, r⟩ := h
    exact ⟨v, e, r.keep k m d v⟩
  | nest ds =>
    obtain ⟨v, e, r⟩ := h
    exact ⟨v, e, r.keep k m _ v⟩
  | own ds =>
    obtain ⟨p, vs, e, o, hp, r⟩ := h
    obtain ⟨o', hk⟩ := ho ds p rfl e o
    exact ⟨p, vs, e, o', hk _ hp, r.keep k m ds vs⟩
  | slf => exact h
  | exc c ns ds =>
    obtain ⟨a, dd, vs, e, hx, n, hd, l, r⟩ := h
    exact ⟨a, dd, vs, e, hx, fun q => n (k.2 _ _ hd q), k.1 _ _ n hd, l, r.keep k m ds vs⟩
theorem EnvE.ext (x : Ext ph H H') (s : PhS H ph ph') (h : EnvE K cm xa O H ph ρ σ) : EnvE K cm xa O H' ph' ρ σ :=
  ⟨h.len, fun i sl v e1 e2 => (h.at_ i sl v e1 e2).keep (Ext.keep x s) s.m fun ds p _ _ o => ⟨o, fun u q => x p u (h.tr p o).1 q⟩, h.tr.ext x s⟩
theorem EnvE.val {i : Nat} {d : D} (h : EnvE K cm xa O H ph ρ σ) (e : ρ[i]? = some (.val d)) : ∃ v, σ[i]? = some (some v) ∧ Rep K cm H (OO O ph) ph d v := by
  have hi : i < σ.length := by rw [h.len]; exact (List.getElem?_eq_some_iff.mp e).1
  obtain ⟨v, e1, r⟩ := h.at_ i _ σ[i] e (List.getElem?_eq_getElem hi)
  exact ⟨v, by rw [List.getElem?_eq_getElem hi, e1], r⟩
theorem EnvE.nestd {i : Nat} {ds : List D} (h : EnvE K cm xa O H ph ρ σ) (e : ρ[i]? = some (.nest ds)) : ∃ v, σ[i]? = some (some v) ∧ Rep K cm H (OO O ph) ph (.lst ds) v := by
  have hi : i < σ.length := by rw [h.len]; exact (List.getElem?_eq_some_iff.mp e).1
  obtain ⟨v, e1, r⟩ := h.at_ i _ σ[i] e (List.getElem?_eq_getElem hi)
  exact ⟨v, by rw [List.getElem?_eq_getElem hi, e1], r⟩
theorem EnvE.ownd {i : Nat} {ds : List D} (h : EnvE K cm xa O H ph ρ σ) (e : ρ[i]? = some (.own ds)) : ∃ p vs, σ[i]? = some (some (.ref p)) ∧ O p ∧ H p = some (.lst vs) ∧ RepL K cm H (OO O ph) ph ds vs := by
  have hi : i < σ.length := by rw [h.len]; exact (List.getElem?_eq_some_iff.mp e).1
  obtain ⟨p, vs, e1, r⟩ := h.at_ i _ σ[i] e (List.getElem?_eq_getElem hi)
  exact ⟨p, vs, by rw [List.getElem?_eq_getElem hi, e1], r⟩
variable (K cm xa O) in
def Post1 {α β : Type} (rel : Hp → Option Addr → α → β → Prop) (Wx : WX) (σ : St) (ph : Option Addr) (H : Hp) (Q : β → Hp → Prop) : R α → Prop
  | .ok a w' => ∀ b H' ph', Ext ph H H' → PhS H ph ph' → HandOk K cm H' O ph' w' → rel H' ph' a b → Q b H'
  | .ex c ns xs w' => ∀ dd H' ph' vs, Ext ph H H' → PhS H ph ph' → HandOk K cm H' O ph' w' → H' dd = some (.xd (ns.zip vs).reverse) → ns.length = vs.length → RepL K cm H' (OO O ph') ph' xs vs → Wx (.ref (cm c)) (some dd) σ H'
  | .bad => False
variable (K cm xa O) in
structure Run {α β : Type} (rel : Hp → Option Addr → α → β → Prop) (Wx : WX) (ρ : Env) (σ : St) (ph : Option Addr) (H : Hp) (w : Wd) (m : M α) (Q : β → Hp → Prop) : Prop where
  env : EnvE K cm xa O H ph ρ σ
  hand : HandOk K cm H O ph w
  post : Post1 K cm O rel Wx σ ph H Q (m w)
variable (K cm O) in
abbrev relV : Hp → Option Addr → D → V → Prop := fun H ph d v => Rep K cm H (OO O ph) ph d v
variable (K cm O) in
abbrev relL : Hp → Option Addr → List D → List V → Prop := fun H ph d v => RepL K cm H (OO O ph) ph d v
abbrev relB : Hp → Option Addr → Bool → Bool → Prop := fun _ _ a b => a = b
variable {Wx : WX}
theorem Post1.imp {α β : Type} {rel : Hp → Option Addr → α → β → Prop} {Q Q' : β → Hp → Prop} {r : R α} (hq : ∀ b H1, Q b H1 → Q' b H1) (h : Post1 K cm O rel Wx σ ph H Q r) : Post1 K cm O rel Wx σ ph H Q' r := by
  cases r with
  | ok a w' => exact fun b H' ph' e s k r => hq _ _ (h b H' ph' e s k r)
  | ex c ns xs w' => exact h
  | bad => exact h
theorem Run.imp {α β : Type} {rel : Hp → Option Addr → α → β → Prop} {m : M α} {Q Q' : β → Hp → Prop} (hq : ∀ b H1, Q b H1 → Q' b H1) (h : Run K cm xa O rel Wx ρ σ ph H w m Q) : Run K cm xa O rel Wx ρ σ ph H w m Q' :=
  ⟨h.env, h.hand, h.post.imp hq⟩
theorem Post1.ext {α β : Type} {rel : Hp → Option Addr → α → β → Prop} {Q : β → Hp → Prop} {r : R α} (x : Ext ph H H1) (s : PhS H ph ph1) (h : Post1 K cm O rel Wx σ ph H Q r) : Post1 K cm O rel Wx σ ph1 H1 Q r := by
  cases r with
  | ok a w' => exact fun b H' ph' e t k r => h b H' ph' (x.trans s e) (s.trans x t) k r
  | ex c ns xs w' => exact fun dd H' ph' vs e t => h dd H' ph' vs (x.trans s e) (s.trans x t)
  | bad => exact h
theorem Run.bind {α β γ δ : Type} {rel : Hp → Option Addr → α → β → Prop} {rel2 : Hp → Option Addr → γ → δ → Prop} {m : M α} {k : α → M γ} {Q : δ → Hp → Prop} (h : Run K cm xa O rel2 Wx ρ σ ph H w (M.bind m k) Q) :
    Run K cm xa O rel Wx ρ σ ph H w m (fun b H1 => ∃ a ph1 w1, Ext ph H H1 ∧ PhS H ph ph1 ∧ rel H1 ph1 a b ∧ Run K cm xa O rel2 Wx ρ σ ph1 H1 w1 (k a) Q) := by
  refine ⟨h.env, h.hand, ?_⟩
  have hp := h.post
  unfold M.bind at hp
  cases e : m w with
  | ok a w1 =>
    rw [e] at hp
    exact fun b H1 ph1 x s hk r => ⟨a, ph1, w1, x, s, r, h.env.ext x s, hk, hp.ext x s⟩
  | ex c ns xs w1 => rw [e] at hp; exact hp
  | bad => rw [e] at hp; exact hp
theorem Run.ret {α β : Type} {rel : Hp → Option Addr → α → β → Prop} {a : α} {b : β} {Q : β → Hp → Prop} (h : Run K cm xa O rel Wx ρ σ ph H w (M.ret a) Q) (r : rel H ph a b) : Q b H := h.post b H ph .refl .refl h.hand r
theorem Run.ret_at {α β : Type} {rel : Hp → Option Addr → α → β → Prop} {a : α} {b : β} {Q : β → Hp → Prop} (h : Run K cm xa O rel Wx ρ σ ph H w (M.ret a) Q) (x : Ext ph H H1) (hk : HandOk K cm H1 O ph w) (r : rel H1 ph a b) : Q b H1 := h.post b H1 ph x .refl hk r
theorem Run.no {α β : Type} {rel : Hp → Option Addr → α → β → Prop} {Q : β → Hp → Prop} {P : Prop} (h : Run K cm xa O rel Wx ρ σ ph H w (M.fail : M α) Q) : P := (show False from h.post).elim
theorem Run.new {p : Addr} (hp : H p = none) {α β : Type} {rel : Hp → Option Addr → α → β → Prop} {m : M α} {Q : β → Hp → Prop} (h : Run K cm xa O rel Wx ρ σ ph H w m Q) : ¬ OO O ph p := fresh_oo h.env.tr h.hand hp
theorem Run.tup {p : Addr} {ds : List D} {vs : List V} {Q : V → Hp → Prop} (h : Run K cm xa O (relV K cm O) Wx ρ σ ph H w (M.ret (.tup ds)) Q) (hp : H p = none) (r : RepL K cm H (OO O ph) ph ds vs) : Q (.ref p) (upd H p (.tup vs)) := by
  refine h.ret_at (ext_new hp) (h.hand.new hp) ?_
  show Rep K cm _ _ _ _ _
  simp only [Rep]
  exact ⟨p, vs, rfl, .inl ⟨h.new hp, .inl upd_same⟩, r.keep (Ext.keep (ext_new hp) .refl) (fun _ e => e) ds vs⟩
theorem Run.lst {p : Addr} {ds : List D} {vs : List V} {Q : V → Hp → Prop} (h : Run K cm xa O (relV K cm O) Wx ρ σ ph H w (M.ret (.lst ds)) Q) (hp : H p = none) (r : RepL K cm H (OO O ph) ph ds vs) : Q (.ref p) (upd H p (.lst vs)) := by
  refine h.ret_at (ext_new hp) (h.hand.new hp) ?_
  show Rep K cm _ _ _ _ _
  simp only [Rep]
  exact ⟨p, vs, rfl, ⟨h.new hp, upd_same⟩, r.keep (Ext.keep (ext_new hp) .refl) (fun _ e => e) ds vs⟩
end
section
variable (K : PySem.W.Frag) (cm : Nat → Addr) (xa : Option (Addr × Nat × Addr)) (Wx : WX)
def tX (f : EF) : TE := fun σ H Q => ∃ O ρ ph w, Run K cm xa O (relV K cm O) Wx ρ σ ph H w (f ρ) Q
def tTX (f : TF) : TT := fun σ H Q => ∃ O ρ ph w, Run K cm xa O relB Wx ρ σ ph H w (f ρ) Q
def tAX (f : Env → M (List D)) : TA := fun σ H Q => ∃ O ρ ph w, Run K cm xa O (relL K cm O) Wx ρ σ ph H w (f ρ) Q
end
structure Cfg where
  cm : Nat → Addr
  xa : Option (Addr × Nat × Addr)
  Wx : WX
abbrev PX (X : Cx) (c : Cfg) (e : Expr) (f : EF) : Prop := PE X e (tX X.K c.cm c.xa c.Wx f)
abbrev PTX (X : Cx) (c : Cfg) (e : Expr) (f : TF) : Prop := PT X e (tTX X.K c.cm c.xa c.Wx f)
abbrev PAX (X : Cx) (c : Cfg) (es : List Expr) (fs : List EF) : Prop := PA X es (tAX X.K c.cm c.xa c.Wx (evs fs))
theorem PE.to {X : Cx} {e : Expr} {t t' : TE} (h : PE X e t) (m : ∀ σ H Q, t' σ H Q → t σ H Q) : PE X e t' := ⟨fun pins s σ H Q I q => h.run pins s σ H Q I (m σ H Q q)⟩
theorem PT.to {X : Cx} {e : Expr} {t t' : TT} (h : PT X e t) (m : ∀ σ H Q, t' σ H Q → t σ H Q) : PT X e t' := ⟨fun pins s σ H Q I q => h.run pins s σ H Q I (m σ H Q q)⟩
theorem PA.to {X : Cx} {es : List Expr} {t t' : TA} (h : PA X es t) (m : ∀ σ H Q, t' σ H Q → t σ H Q) : PA X es t' := ⟨fun pos pins s σ H Q I q => h.run pos pins s σ H Q I (m σ H Q q)⟩
theorem PS.to {X : Cx} {e : Stmt} {t t' : TS} (h : PS X e t) (m : ∀ D σ H, t' D σ H → t D σ H) : PS X e t' := ⟨fun pins s σ H D I q => h.run pins s σ H D I (m D σ H q)⟩
theorem PSs.to {X : Cx} {e : List Stmt} {t t' : TS} (h : PSs X e t) (m : ∀ D σ H, t' D σ H → t D σ H) : PSs X e t' := ⟨fun pins s σ H D I q => h.run pins s σ H D I (m D σ H q)⟩
section
variable {X : Cx} {c : Cfg} {pos : Pos} {a b e : Expr} {fa fb fe : EF} {es : List Expr} {fs : List EF}
theorem tX.go {f : EF} {σ : St} {H : Hp} {Q : VK} {O : NS} {ρ : Env} {ph : Option Addr} {w : Wd} {Q' : VK} (h : Run X.K c.cm c.xa O (relV X.K c.cm O) c.Wx ρ σ ph H w (f ρ) Q') (m : ∀ v H', Q' v H' → Q v H') : tX X.K c.cm c.xa c.Wx f σ H Q := ⟨O, ρ, ph, w, h.imp m⟩
theorem px_var (i : Nat) {x : Str} (hN : X.N[i]? = some x := by rfl) (hv : L2.Vis X.env.scope x := by first | exact Or.inl rfl | exact Or.inr (Or.inl rfl) | exact Or.inr (Or.inr rfl)) (hd : (x == ("__debug__" : Str)) = false := by decide)
    (hcd : (x == ("__classdict__" : Str)) = false := by decide) : PX X c (.Name x pos) (eVar i) := by
  refine PE.to (L2.pe_var hN hv hd hcd) fun σ H Q ⟨O, ρ, ph, w, h⟩ => ?_
  have hp := h.post
  have he := h.env
  unfold eVar at h
  cases e : ρ[i]? with
  | none => rw [e] at h; exact h.no
  | some s =>
    rw [e] at h
    cases s with
    | val d =>
      obtain ⟨v, e1, r⟩ := he.val e
      exact ⟨v, e1, h.ret r⟩
    | nest ds =>
      obtain ⟨v, e1, r⟩ := he.nestd e
      exact ⟨v, e1, h.ret r⟩
    | _ => exact h.no
theorem px_int {i : Int} {j : Nat} : PX X c (.Constant (.int i) j pos) (eC (.int i)) := PE.to L2.pe_int fun σ H Q ⟨O, ρ, ph, w, h⟩ => show Q (.int i) H from h.ret (b := V.int i) (by simp [Rep])
theorem px_bl {i : Bool} {j : Nat} : PX X c (.Constant (.bool i) j pos) (eC (.bl i)) := PE.to L2.pe_bl fun σ H Q ⟨O, ρ, ph, w, h⟩ => show Q (.bl i) H from h.ret (b := V.bl i) (by simp [Rep])
theorem px_non {j : Nat} : PX X c (.Constant .none j pos) (eC .non) := PE.to L2.pe_non fun σ H Q ⟨O, ρ, ph, w, h⟩ => show Q (.non) H from h.ret (b := V.non) (by simp [Rep])
theorem px_str {i : Str} {j : Nat} : PX X c (.Constant (.str i) j pos) (eC (.str i)) := PE.to L2.pe_str fun σ H Q ⟨O, ρ, ph, w, h⟩ => show Q (.str i) H from h.ret (b := V.str i) (by simp [Rep])
def Op2 (K : PySem.W.Frag) (cm : Nat → Addr) (f : D → D → M D) (r : R2) : Prop := ∀ {xa O Wx ρ σ ph H w} {Q : VK} (d1 d2 v1 v2), Rep K cm H (OO O ph) ph d1 v1 → Rep K cm H (OO O ph) ph d2 v2 →
  Run K cm xa O (relV K cm O) Wx ρ σ ph H w (f d1 d2) Q → r v1 v2 H Q
def Op1 (K : PySem.W.Frag) (cm : Nat → Addr) (f : D → M D) (r : V → Hp → VK → Prop) : Prop := ∀ {xa O Wx ρ σ ph H w} {Q : VK} (d1 v1), Rep K cm H (OO O ph) ph d1 v1 → Run K cm xa O (relV K cm O) Wx ρ σ ph H w (f d1) Q → r v1 H Q
def OpL (K : PySem.W.Frag) (cm : Nat → Addr) (f : List D → M D) (r : List V → Hp → VK → Prop) : Prop := ∀ {xa O Wx ρ σ ph H w} {Q : VK} (d1 v1), RepL K cm H (OO O ph) ph d1 v1 → Run K cm xa O (relV K cm O) Wx ρ σ ph H w (f d1) Q → r v1 H Q
theorem bin_to {f : D → D → M D} {r : R2} (hr : Op2 X.K c.cm f r) : ∀ σ H Q, tX X.K c.cm c.xa c.Wx (eBin f fa fb) σ H Q → L2.tOp r (tX X.K c.cm c.xa c.Wx fa) (tX X.K c.cm c.xa c.Wx fb) σ H Q := fun σ H Q ⟨O, ρ, ph, w, h⟩ =>
  ⟨O, ρ, ph, w, h.bind.imp fun x H1 ⟨d, ph1, w1, e1, s1, r1, h1⟩ => ⟨O, ρ, ph1, w1, h1.bind.imp fun y H2 ⟨d2, ph2, w2, e2, s2, r2, h2⟩ => hr d d2 x y (Rep.keep (Ext.keep e2 s2) s2.m d x r1) r2 h2⟩⟩
theorem px_bin {op : Operator} {f : D → D → M D} {r : R2} (ho : OpR X (binaryOp op) r) (hr : Op2 X.K c.cm f r) (ha : PX X c a fa) (hb : PX X c b fb) : PX X c (.BinOp a op b pos) (eBin f fa fb) :=
  PE.to (L2.pe_op ho ha hb) (bin_to hr)
theorem px_cmp {op : CmpOp} {f : D → D → M D} {r : R2} (ho : OpR X (compareOp op) r) (hr : Op2 X.K c.cm f r) (ha : PX X c a fa) (hb : PX X c b fb) (hm : behindInMarks op b = false) : PX X c (.Compare a [op] [b] pos) (eBin f fa fb) :=
  PE.to (L2.pe_cmpR ho ha hb hm) (bin_to hr)
theorem boolOf_rep {K : PySem.W.Frag} {cm : Nat → Addr} {xa O Wx ρ σ ph H w} {Q : Bool → Hp → Prop} {d : D} {v : V} (r : Rep K cm H (OO O ph) ph d v) (h : Run K cm xa O relB Wx ρ σ ph H w (boolOf d) Q) : ∃ k, v = .bl k ∧ Q k H := by
  cases d with
  | bl k => exact ⟨k, by simpa [Rep] using r, h.ret rfl⟩
  | _ => exact h.no
theorem val_to {f : EF} : ∀ σ H Q, tTX X.K c.cm c.xa c.Wx (tVal f) σ H Q → L2.tTest (tX X.K c.cm c.xa c.Wx f) σ H Q := fun σ H Q ⟨O, ρ, ph, w, h⟩ =>
  ⟨O, ρ, ph, w, h.bind.imp fun x H1 ⟨d, ph1, w1, e1, s1, r1, h1⟩ => boolOf_rep r1 h1⟩
theorem ptx_cmp {op : CmpOp} {f : D → D → M D} {r : R2} (ho : OpR X (compareOp op) r) (hr : Op2 X.K c.cm f r) (ha : PX X c a fa) (hb : PX X c b fb) (hm : behindInMarks op b = false) : PTX X c (.Compare a [op] [b] pos) (tVal (eBin f fa fb)) :=
  PT.to (L2.pt_cmpR ho ha hb hm) fun σ H Q q => by
    obtain ⟨O, ρ, ph, w, h⟩ := val_to (f := eBin f fa fb) σ H Q q
    exact bin_to hr σ H _ ⟨O, ρ, ph, w, h⟩
theorem px_un {op : UnaryOp} {f : D → M D} {r : V → Hp → VK → Prop} (ho : L2.UnR X (unaryOp op) r) (hr : Op1 X.K c.cm f r) (ha : PX X c a fa) : PX X c (.UnaryOp op a pos) (eUn f fa) :=
  PE.to (L2.pe_un ho ha) fun σ H Q ⟨O, ρ, ph, w, h⟩ => ⟨O, ρ, ph, w, h.bind.imp fun x H1 ⟨d, ph1, w1, e1, s1, r1, h1⟩ => hr d x r1 h1⟩
theorem pax_nil : PAX X c [] [] := PA.to L2.pa_nil fun σ H Q ⟨O, ρ, ph, w, h⟩ => h.ret (b := []) RepL.nil
theorem pax_cons (ha : PX X c e fe) (hr : PAX X c es fs) (hs : starEach (e :: es) X.env = (false, eval e X.env) :: starEach es X.env := by rfl) : PAX X c (e :: es) (fe :: fs) :=
  PA.to (L2.pa_cons ha hr hs) fun σ H Q ⟨O, ρ, ph, w, h⟩ => ⟨O, ρ, ph, w, h.bind.imp fun x H1 ⟨d, ph1, w1, e1, s1, r1, h1⟩ =>
    ⟨O, ρ, ph1, w1, h1.bind.imp fun xs H2 ⟨ds, ph2, w2, e2, s2, r2, h2⟩ => h2.ret (RepL.cons (Rep.keep (Ext.keep e2 s2) s2.m d x r1) r2)⟩⟩
theorem evs_len {ρ : Env} : ∀ (fs : List EF) (w : Wd) (ds : List D) (w' : Wd), evs fs ρ w = .ok ds w' → ds.length = fs.length := by
  intro fs
  induction fs with
  | nil => intro w ds w' e; injection e with e _; rw [← e]; rfl
  | cons f fs ih =>
    intro w ds w' e
    unfold evs M.bind at e
    cases e1 : f ρ w with
    | ok d w1 =>
      rw [e1] at e
      simp only [M.bind] at e
      cases e2 : evs fs ρ w1 with
      | ok ds2 w2 =>
        rw [e2] at e
        injection e with e _
        rw [← e, List.length_cons, ih _ _ _ e2]; rfl
      | ex => rw [e2] at e; cases e
      | bad => rw [e2] at e; cases e
    | ex => rw [e1] at e; cases e
    | bad => rw [e1] at e; cases e
theorem evs_run {K : PySem.W.Frag} {cm : Nat → Addr} {xa O Wx ρ σ ph H w} {k : List D → M D} {Q : VK} (h : Run K cm xa O (relV K cm O) Wx ρ σ ph H w (M.bind (evs fs ρ) k) Q) :
    Run K cm xa O (relL K cm O) Wx ρ σ ph H w (evs fs ρ) (fun vs H1 => ∃ ds ph1 w1, vs.length = fs.length ∧ RepL K cm H1 (OO O ph1) ph1 ds vs ∧ Run K cm xa O (relV K cm O) Wx ρ σ ph1 H1 w1 (k ds) Q) := by
  have hb := h.bind (rel := relL K cm O)
  refine ⟨hb.env, hb.hand, ?_⟩
  have hp := hb.post
  cases e : evs fs ρ w with
  | ok ds w1 =>
    rw [e] at hp
    intro xs H1 ph1 x1 s1 k1 r1
    have hp2 := h.post
    unfold M.bind at hp2
    rw [e] at hp2
    exact ⟨ds, ph1, w1, r1.length.symm.trans (evs_len _ _ _ _ e), r1, h.env.ext x1 s1, k1, hp2.ext x1 s1⟩
  | ex => rw [e] at hp; exact hp
  | bad => rw [e] at hp; exact hp
theorem px_tup {k : Nat} (h : PAX X c es fs) (hl : fs.length ≤ 1000 := by decide) : PX X c (.Tuple es k pos) (eTup fs) :=
  PE.to (L2.pe_tup h) fun σ H Q ⟨O, ρ, ph, w, h⟩ => ⟨O, ρ, ph, w, (evs_run h).imp fun vs H1 ⟨ds, ph1, w1, l, r, h1⟩ => ⟨by rw [sizeLine_eq]; omega, fun p hp => h1.tup hp r⟩⟩
theorem px_lst (h : PAX X c es fs) (hl : fs.length ≤ 1000 := by decide) : PX X c (.List es pos) (eLst fs) :=
  PE.to (L2.pe_lst h) fun σ H Q ⟨O, ρ, ph, w, h⟩ => ⟨O, ρ, ph, w, (evs_run h).imp fun vs H1 ⟨ds, ph1, w1, l, r, h1⟩ => ⟨by rw [sizeLine_eq]; omega, fun p hp => h1.lst hp r⟩⟩
theorem px_callB {x : Str} {p : Pos} {id : String} {r : List V → Hp → VK → Prop} {f : List D → M D} (hc : CallR X (.builtin id) r) (hr : OpL X.K c.cm f r) (hg : L2.Gl X x) (hm : X.mg x = none) (hv : bootBuiltins x = some (.builtin id)) (ha : PAX X c (e :: es) fs)
    (hn : x ≠ "__name__" := by decide) (hdb : (x == ("__debug__" : Str)) = false := by decide) (he : starEach (e :: es) X.env = (false, eval e X.env) :: starEach es X.env := by rfl) (hpl : (backTo pos (starEach es X.env)).any (·.1) = false := by rfl) :
    PX X c (.Call (.Name x p) (e :: es) [] pos) (eCall f fs) :=
  PE.to (L2.pe_callB hc hg hm hv ha hn hdb he hpl) fun σ H Q ⟨O, ρ, ph, w, h⟩ => ⟨O, ρ, ph, w, (evs_run h).imp fun vs H1 ⟨ds, ph1, w1, l, r, h1⟩ => hr ds vs r h1⟩
theorem px_callTy {x : Str} {p : Pos} {T : String} {r : List V → Hp → VK → Prop} {f : List D → M D} (hc : CallR X (.type T) r) (hr : OpL X.K c.cm f r) (hg : L2.Gl X x) (hm : X.mg x = none) (hv : bootBuiltins x = some (.type T)) (ha : PAX X c (e :: es) fs)
    (hn : x ≠ "__name__" := by decide) (hdb : (x == ("__debug__" : Str)) = false := by decide) (he : starEach (e :: es) X.env = (false, eval e X.env) :: starEach es X.env := by rfl) (hpl : (backTo pos (starEach es X.env)).any (·.1) = false := by rfl) :
    PX X c (.Call (.Name x p) (e :: es) [] pos) (eCall f fs) :=
  PE.to (L2.pe_callTy hc hg hm hv ha hn hdb he hpl) fun σ H Q ⟨O, ρ, ph, w, h⟩ => ⟨O, ρ, ph, w, (evs_run h).imp fun vs H1 ⟨ds, ph1, w1, l, r, h1⟩ => hr ds vs r h1⟩
theorem px_callF {x : Str} {p : Pos} {id : String} {r : List V → Hp → VK → Prop} {f : List D → M D} (hc : CallR X (.builtin id) r) (hr : OpL X.K c.cm f r) (hg : L2.Gl X x) (hm : X.mg x = some (.builtin id)) (ha : PAX X c (e :: es) fs)
    (hdb : (x == ("__debug__" : Str)) = false := by decide) (he : starEach (e :: es) X.env = (false, eval e X.env) :: starEach es X.env := by rfl) (hpl : (backTo pos (starEach es X.env)).any (·.1) = false := by rfl) :
    PX X c (.Call (.Name x p) (e :: es) [] pos) (eCall f fs) :=
  PE.to (L2.pe_callBfun hc hg hm ha hdb he hpl) fun σ H Q ⟨O, ρ, ph, w, h⟩ => ⟨O, ρ, ph, w, (evs_run h).imp fun vs H1 ⟨ds, ph1, w1, l, r, h1⟩ => hr ds vs r h1⟩
variable {ta tb : TF}
theorem cond_run {K : PySem.W.Frag} {cm : Nat → Addr} {xa O Wx ρ σ ph H w} {α β : Type} {rel : Hp → Option Addr → α → β → Prop} {k : Bool → M α} {Q : β → Hp → Prop} (h : Run K cm xa O rel Wx ρ σ ph H w (M.bind (ta ρ) k) Q) :
    Run K cm xa O relB Wx ρ σ ph H w (ta ρ) (fun b H1 => ∃ ph1 w1, Run K cm xa O rel Wx ρ σ ph1 H1 w1 (k b) Q) :=
  (h.bind (rel := relB)).imp fun b H1 ⟨d, ph1, w1, _, _, r1, h1⟩ => ⟨ph1, w1, by cases r1; exact h1⟩
theorem truth_rep {K : PySem.W.Frag} {cm : Nat → Addr} {xa O Wx ρ σ ph H w} {Q : Bool → Hp → Prop} {d : D} {v : V} (r : Rep K cm H (OO O ph) ph d v) (h : Run K cm xa O relB Wx ρ σ ph H w (truth d) Q) : ∃ k, L2.TruV K v H k ∧ Q k H := by
  cases d with
  | non => simp only [Rep] at r; subst r; exact ⟨false, rfl, h.ret rfl⟩
  | bl k => simp only [Rep] at r; subst r; exact ⟨k, rfl, h.ret rfl⟩
  | int i => simp only [Rep] at r; subst r; exact ⟨_, rfl, h.ret rfl⟩
  | str x =>
    simp only [Rep] at r; subst r
    by_cases hl : x.length ≤ line
    · simp only [truth, if_pos hl] at h
      exact ⟨_, ⟨by rw [sizeLine_eq]; exact hl, rfl⟩, h.ret rfl⟩
    · simp only [truth, if_neg hl] at h; exact h.no
  | tup ds =>
    simp only [Rep] at r
    obtain ⟨a, vs, rfl, t, rl⟩ := r
    refine ⟨!vs.isEmpty, .inr (.inl ⟨vs, t.seq, rfl⟩), h.ret ?_⟩
    have := rl.length
    cases ds <;> cases vs <;> simp_all
  | lst ds =>
    simp only [Rep] at r
    obtain ⟨a, vs, rfl, t, rl⟩ := r
    refine ⟨!vs.isEmpty, .inl ⟨vs, .inl (.inl t.2), rfl⟩, h.ret ?_⟩
    have := rl.length
    cases ds <;> cases vs <;> simp_all
  | frz ds =>
    simp only [Rep] at r
    obtain ⟨a, vs, rfl, t, rl⟩ := r
    refine ⟨!vs.isEmpty, .inl ⟨vs, t.seq, rfl⟩, h.ret ?_⟩
    have := rl.length
    cases ds <;> cases vs <;> simp_all
  | _ => exact h.no
theorem ptx_tru (h : PX X c e fe) (he : ∀ whole, isTrue e X.env whole = (do let v ← whole; standAt e.pos; holding [v] (truthy v)) := by intro _; rfl) : PTX X c e (tTru fe) :=
  PT.to (L2.pt_truth h he) fun σ H Q ⟨O, ρ, ph, w, h⟩ => ⟨O, ρ, ph, w, h.bind.imp fun x H1 ⟨d, ph1, w1, e1, s1, r1, h1⟩ => truth_rep r1 h1⟩
abbrev PWX (X : Cx) (c : Cfg) (e : Expr) (f : TF) : Prop := L2.PW X e (tTX X.K c.cm c.xa c.Wx f)
theorem PW.to {e : Expr} {t t' : TT} (h : L2.PW X e t) (m : ∀ σ H Q, t' σ H Q → t σ H Q) : L2.PW X e t' := ⟨fun wh pins s σ H Q I q => h.run wh pins s σ H Q I (m σ H Q q)⟩
theorem pwx_and1 (ha : PTX X c a ta) : PWX X c (.BoolOp .And [a] pos) ta := L2.pw_and1 ha
theorem pwx_or1 (ha : PTX X c a ta) : PWX X c (.BoolOp .Or [a] pos) ta := L2.pw_or1 ha
theorem pwx_and {rest : List Expr} (ha : PTX X c a ta) (hb : PWX X c (.BoolOp .And (b :: rest) pos) tb) : PWX X c (.BoolOp .And (a :: b :: rest) pos) (tAnd ta tb) :=
  PW.to (L2.pw_and ha hb) fun σ H Q ⟨O, ρ, ph, w, h⟩ => ⟨O, ρ, ph, w, (cond_run h).imp fun k H1 ⟨ph1, w1, h1⟩ => by
    cases k with
    | true => exact ⟨O, ρ, ph1, w1, h1⟩
    | false => exact h1.ret rfl⟩
theorem pwx_or {rest : List Expr} (ha : PTX X c a ta) (hb : PWX X c (.BoolOp .Or (b :: rest) pos) tb) : PWX X c (.BoolOp .Or (a :: b :: rest) pos) (tOr ta tb) :=
  PW.to (L2.pw_or ha hb) fun σ H Q ⟨O, ρ, ph, w, h⟩ => ⟨O, ρ, ph, w, (cond_run h).imp fun k H1 ⟨ph1, w1, h1⟩ => by
    cases k with
    | false => exact ⟨O, ρ, ph1, w1, h1⟩
    | true => exact h1.ret rfl⟩
theorem PWX.pt (h : PWX X c e ta) : PTX X c e ta := L2.PW.pt h
theorem ptx_not (ha : PTX X c a ta) : PTX X c (.UnaryOp .Not a pos) (tNot ta) :=
  PT.to (L2.pt_not ha) fun σ H Q ⟨O, ρ, ph, w, h⟩ => ⟨O, ρ, ph, w, (cond_run h).imp fun k H1 ⟨ph1, w1, h1⟩ => h1.ret rfl⟩
theorem px_one {op : BoolOp} (h : PX X c a fa) : PX X c (.BoolOp op [a] pos) fa := L2.pe_one h
theorem bool_run {K : PySem.W.Frag} {cm : Nat → Addr} {xa O Wx ρ σ ph H w} {α β : Type} {rel : Hp → Option Addr → α → β → Prop} {d : D} {v : V} {k : Bool → M α} {Q : β → Hp → Prop} (r : Rep K cm H (OO O ph) ph d v)
    (h : Run K cm xa O rel Wx ρ σ ph H w (M.bind (boolOf d) k) Q) : ∃ b, v = .bl b ∧ Run K cm xa O rel Wx ρ σ ph H w (k b) Q := by
  cases d with
  | bl b => exact ⟨b, by simpa [Rep] using r, h⟩
  | _ => exact h.no
theorem px_and {rest : List Expr} (ha : PX X c a fa) (hb : PX X c (.BoolOp .And (b :: rest) pos) fb) : PX X c (.BoolOp .And (a :: b :: rest) pos) (eAnd fa fb) :=
  PE.to (L2.pe_and ha hb) fun σ H Q ⟨O, ρ, ph, w, h⟩ => ⟨O, ρ, ph, w, h.bind.imp fun x H1 ⟨d, ph1, w1, e1, s1, r1, h1⟩ => by
    obtain ⟨k, rfl, h2⟩ := bool_run r1 h1
    refine ⟨k, rfl, ?_⟩
    cases k with
    | true => exact ⟨O, ρ, ph1, w1, h2⟩
    | false => exact h2.ret (b := .bl false) (by simp [Rep])⟩
theorem px_or {rest : List Expr} (ha : PX X c a fa) (hb : PX X c (.BoolOp .Or (b :: rest) pos) fb) : PX X c (.BoolOp .Or (a :: b :: rest) pos) (eOr fa fb) :=
  PE.to (L2.pe_or ha hb) fun σ H Q ⟨O, ρ, ph, w, h⟩ => ⟨O, ρ, ph, w, h.bind.imp fun x H1 ⟨d, ph1, w1, e1, s1, r1, h1⟩ => by
    obtain ⟨k, rfl, h2⟩ := bool_run r1 h1
    refine ⟨k, rfl, ?_⟩
    cases k with
    | false => exact ⟨O, ρ, ph1, w1, h2⟩
    | true => exact h2.ret (b := .bl true) (by simp [Rep])⟩
theorem px_if {t : Expr} (ht : PTX X c t ta) (ha : PX X c a fa) (hb : PX X c b fb) : PX X c (.IfExp t a b pos) (eIf ta fa fb) :=
  PE.to (L2.pe_ifExp ht ha hb) fun σ H Q ⟨O, ρ, ph, w, h⟩ => ⟨O, ρ, ph, w, (cond_run h).imp fun k H1 ⟨ph1, w1, h1⟩ => by
    cases k with
    | true => exact ⟨O, ρ, ph1, w1, h1⟩
    | false => exact ⟨O, ρ, ph1, w1, h1⟩⟩
variable {K : PySem.W.Frag} {cm : Nat → Addr}
theorem int_of {H : Hp} {N : NS} {ph : Option Addr} {i : Int} {v : V} (r : Rep K cm H N ph (.int i) v) : v = .int i := by simpa only [Rep] using r
theorem bl_of {H : Hp} {N : NS} {ph : Option Addr} {i : Bool} {v : V} (r : Rep K cm H N ph (.bl i) v) : v = .bl i := by simpa only [Rep] using r
theorem str_of {H : Hp} {N : NS} {ph : Option Addr} {i : Str} {v : V} (r : Rep K cm H N ph (.str i) v) : v = .str i := by simpa only [Rep] using r
theorem non_of {H : Hp} {N : NS} {ph : Option Addr} {v : V} (r : Rep K cm H N ph .non v) : v = .non := by simpa only [Rep] using r
theorem tup_of {H : Hp} {N : NS} {ph : Option Addr} {ds : List D} {v : V} (r : Rep K cm H N ph (.tup ds) v) : ∃ a vs, v = .ref a ∧ TN K H N a vs ∧ RepL K cm H N ph ds vs := by simpa only [Rep] using r
theorem lst_of {H : Hp} {N : NS} {ph : Option Addr} {ds : List D} {v : V} (r : Rep K cm H N ph (.lst ds) v) : ∃ a vs, v = .ref a ∧ (¬ N a ∧ H a = some (.lst vs)) ∧ RepL K cm H N ph ds vs := by simpa only [Rep] using r
theorem frz_of {H : Hp} {N : NS} {ph : Option Addr} {ds : List D} {v : V} (r : Rep K cm H N ph (.frz ds) v) : ∃ a vs, v = .ref a ∧ LN K H N a vs ∧ RepL K cm H N ph ds vs := by simpa only [Rep] using r
theorem op2_int0 {f : D → D → M D} {g : Int → Int → D} {gv : Int → Int → V} (hg : ∀ i j {H N ph}, Rep K cm H N ph (g i j) (gv i j))
    (h1 : ∀ i j, f (.int i) (.int j) = M.ret (g i j)) (h2 : ∀ a b, (∀ i j, ¬ (a = .int i ∧ b = .int j)) → f a b = M.fail) : Op2 K cm f (L2.rI0 gv) := by
  intro xa O Wx ρ σ ph H w Q d1 d2 v1 v2 r1 r2 h
  by_cases hh : ∃ i j, d1 = .int i ∧ d2 = .int j
  · obtain ⟨i, j, rfl, rfl⟩ := hh
    rw [h1] at h
    exact ⟨i, j, int_of r1, int_of r2, h.ret (hg i j)⟩
  · rw [h2 d1 d2 fun i j e => hh ⟨i, j, e⟩] at h; exact h.no
end
end FL
namespace FL
open PySem
open L2 (V Hp HO Cx Inv VK TE TT TA TS TI TG PE PT PA PS PSs PI PG Ends XK WX RelV Vals Rd upd upd_same upd_ne ne_of_none EP TP AP OpR R2 CallR FnOk Room Binds)
section
variable {K : PySem.W.Frag} {cm : Nat → Addr} {X : Cx}
theorem sub_ok : Op2 K cm subD (L2.rI0 fun i j => .int (i - j)) := op2_int0 (g := fun i j => .int (i - j)) (fun i j => by simp [Rep]) (fun _ _ => rfl) (fun a b h => by cases a <;> cases b <;> first | rfl | exact absurd ⟨rfl, rfl⟩ (h _ _))
def CMulB (i j : Int) : Prop := i.natAbs.log2 + j.natAbs.log2 < 100000000
theorem CMulB.ok {i j : Int} (h : CMulB i j) : IntMulOk i j := by
  have b : ∀ x : Int, Builtin.Int.intBits x ≤ x.natAbs.log2 + 1 := fun x => by
    unfold Builtin.Int.intBits
    split <;> omega
  have h1 := b i
  have h2 := b j
  have h3 : i.natAbs.log2 + j.natAbs.log2 < 100000000 := h
  have e : bitsLine = 134217728 := by decide
  unfold IntMulOk
  intro z
  rw [Bool.and_eq_true] at z
  have z3 := of_decide_eq_true z.2
  rw [e] at z3
  omega
theorem op_mulB : OpR X (binaryOp .Mult) (L2.rI CMulB fun i j => .int (i * j)) := L2.opI fun _ _ _ _ _ _ _ hc q => PyProof.Rows.mul_int q hc.ok
theorem mul_ok : Op2 K cm mulD (L2.rI CMulB fun i j => .int (i * j)) := by
  intro xa O Wx ρ σ ph H w Q d1 d2 v1 v2 r1 r2 h
  cases d1 <;> cases d2 <;> try exact h.no
  rename_i i j
  by_cases hc : i.natAbs.log2 + j.natAbs.log2 < 100000000
  · simp only [mulD, if_pos hc] at h
    exact ⟨i, j, int_of r1, int_of r2, hc, h.ret (b := .int (i * j)) (by simp [Rep])⟩
  · simp only [mulD, if_neg hc] at h; exact h.no
def CDivZ (i j : Int) : Prop := j ≠ 0 ∧ j.natAbs.log2 < 9000
theorem op_fdivZ : OpR X (binaryOp .FloorDiv) (L2.rI CDivZ fun i j => .int (i.fdiv j)) := L2.opI fun i j _ _ _ _ _ hc q => PyProof.Rows.floordiv_int hc.1 q (.inl (PyProof.noPylong_of_log2 hc.2))
theorem fdiv_ok : Op2 K cm fdivD (L2.rI CDivZ fun i j => .int (i.fdiv j)) := by
  intro xa O Wx ρ σ ph H w Q d1 d2 v1 v2 r1 r2 h
  cases d1 <;> cases d2 <;> try exact h.no
  rename_i i j
  by_cases hc : j ≠ 0 ∧ j.natAbs.log2 < 9000
  · simp only [fdivD, if_pos hc] at h
    exact ⟨i, j, int_of r1, int_of r2, hc, h.ret (b := .int (i.fdiv j)) (by simp [Rep])⟩
  · simp only [fdivD, if_neg hc] at h; exact h.no
theorem mod_ok : Op2 K cm modD (L2.rI (fun _ j => j ≠ 0) fun i j => .int (i.fmod j)) := by
  intro xa O Wx ρ σ ph H w Q d1 d2 v1 v2 r1 r2 h
  cases d1 <;> cases d2 <;> try exact h.no
  rename_i i j
  by_cases hc : j ≠ 0
  · simp only [modD, if_pos hc] at h
    exact ⟨i, j, int_of r1, int_of r2, hc, h.ret (b := .int (i.fmod j)) (by simp [Rep])⟩
  · simp only [modD, if_neg hc] at h; exact h.no
theorem pow_ok : Op2 K cm powD (L2.rI L2.CPow fun i j => .int (i ^ j.toNat)) := by
  intro xa O Wx ρ σ ph H w Q d1 d2 v1 v2 r1 r2 h
  cases d1 <;> cases d2 <;> try exact h.no
  rename_i i j
  by_cases hc : 0 ≤ j ∧ j ≤ 1000000 ∧ i.natAbs < 2 ^ 64
  · simp only [powD, if_pos hc] at h
    exact ⟨i, j, int_of r1, int_of r2, hc, h.ret (b := .int (i ^ j.toNat)) (by simp [Rep])⟩
  · simp only [powD, if_neg hc] at h; exact h.no
theorem lt_ok : Op2 K cm ltD (L2.rI0 fun i j => .bl (decide (i < j))) := op2_int0 (g := fun i j => .bl (decide (i < j))) (fun i j => by simp [Rep]) (fun _ _ => rfl) (fun a b h => by cases a <;> cases b <;> first | rfl | exact absurd ⟨rfl, rfl⟩ (h _ _))
theorem le_ok : Op2 K cm leD (L2.rI0 fun i j => .bl (decide (i ≤ j))) := op2_int0 (g := fun i j => .bl (decide (i ≤ j))) (fun i j => by simp [Rep]) (fun _ _ => rfl) (fun a b h => by cases a <;> cases b <;> first | rfl | exact absurd ⟨rfl, rfl⟩ (h _ _))
theorem gt_ok : Op2 K cm gtD (L2.rI0 fun i j => .bl (decide (j < i))) := op2_int0 (g := fun i j => .bl (decide (j < i))) (fun i j => by simp [Rep]) (fun _ _ => rfl) (fun a b h => by cases a <;> cases b <;> first | rfl | exact absurd ⟨rfl, rfl⟩ (h _ _))
theorem ge_ok : Op2 K cm geD (L2.rI0 fun i j => .bl (decide (j ≤ i))) := op2_int0 (g := fun i j => .bl (decide (j ≤ i))) (fun i j => by simp [Rep]) (fun _ _ => rfl) (fun a b h => by cases a <;> cases b <;> first | rfl | exact absurd ⟨rfl, rfl⟩ (h _ _))
theorem neg_ok : Op1 K cm negD (L2.rU fun i => .int (-i)) := by
  intro xa O Wx ρ σ ph H w Q d v r h
  cases d <;> try exact h.no
  rename_i i
  exact ⟨i, int_of r, h.ret (b := .int (-i)) (by simp [Rep])⟩
def rAddS : R2 := fun x y H Q => ∃ i j, x = .str i ∧ y = .str j ∧ i.length + j.length ≤ sizeLine ∧ Q (.str (i ++ j)) H
def rAddI : R2 := fun x y H Q => ∃ i j, x = .int i ∧ y = .int j ∧ Q (.int (i + j)) H
def rAddA (K : PySem.W.Frag) : R2 := fun x y H Q => rAddI x y H Q ∨ rAddS x y H Q ∨ L2.rCat x y H Q ∨ L2.rCatT K x y H Q
theorem op_addA : OpR X (binaryOp .Add) (rAddA X.K) := L2.OpR.or L2.op_add (L2.OpR.or L2.op_add_str (L2.OpR.or L2.op_cat L2.op_catT))
theorem add_ok : Op2 K cm addD (rAddA K) := by
  intro xa O Wx ρ σ ph H w Q d1 d2 v1 v2 r1 r2 h
  cases d1 <;> cases d2 <;> try exact h.no
  · rename_i i j
    exact .inl ⟨i, j, int_of r1, int_of r2, h.ret (b := .int (i + j)) (by simp [Rep])⟩
  · rename_i i j
    by_cases hc : i.length + j.length ≤ line
    · simp only [addD, if_pos hc] at h
      exact .inr (.inl ⟨i, j, str_of r1, str_of r2, by rw [sizeLine_eq]; exact hc, h.ret (b := .str (i ++ j)) (by simp [Rep])⟩)
    · simp only [addD, if_neg hc] at h; exact h.no
  · rename_i xs ys
    obtain ⟨a, vs, rfl, ha, ra⟩ := tup_of r1
    obtain ⟨b, ws, rfl, hb, rb⟩ := tup_of r2
    by_cases hc : xs ≠ [] ∧ xs.length + ys.length ≤ line
    · simp only [addD, if_pos hc] at h
      have la := ra.length
      have lb := rb.length
      refine .inr (.inr (.inr ⟨a, b, vs, ws, rfl, rfl, ha.seq, hb.seq, fun e => hc.1 ?_, ?_, fun e => ?_, fun _ p hp => h.tup hp (ra.append rb)⟩))
      · subst e; cases xs with
        | nil => rfl
        | cons => simp at la
      · have := hc.2; rw [sizeLine_eq]; unfold line at this; omega
      · subst e
        have e0 : ys = [] := by cases ys with
          | nil => rfl
          | cons => simp at lb
        subst e0
        refine h.ret (b := .ref a) ?_
        show Rep K cm _ _ _ _ _
        rw [List.append_nil]
        exact r1
    · simp only [addD, if_neg hc] at h; exact h.no
  · rename_i xs ys
    obtain ⟨a, vs, rfl, ⟨na, ha⟩, ra⟩ := lst_of r1
    obtain ⟨b, ws, rfl, ⟨nb, hb⟩, rb⟩ := lst_of r2
    by_cases hc : xs.length + ys.length ≤ line
    · simp only [addD, if_pos hc] at h
      have la := ra.length
      have lb := rb.length
      exact .inr (.inr (.inl ⟨a, b, vs, ws, rfl, rfl, ha, hb, by rw [sizeLine_eq, ← la, ← lb]; exact hc, fun p hp => h.lst hp (ra.append rb)⟩))
    · simp only [addD, if_neg hc] at h; exact h.no
mutual
def D.py : D → PyData
  | .non => .none
  | .bl b => .bool b
  | .int i => .int i
  | .str x => .str x
  | .tup xs => .tuple (D.pyL xs)
  | .lst xs => .list (D.pyL xs)
  | .frz _ | .ins _ _ _ | .hand => .none
def D.pyL : List D → List PyData
  | [] => []
  | x :: xs => D.py x :: D.pyL xs
end
mutual
theorem dp_of {H : Hp} {N : NS} {ph : Option Addr} : ∀ (n : Nat) (d : D) (v : V), D.flat n d = true → Rep K cm H N ph d v → L2.Dp K H v d.py
  | _, .non, _, _, r => by rw [non_of r]; exact .non
  | _, .bl b, _, _, r => by rw [bl_of r]; exact .bl b
  | _, .int i, _, _, r => by rw [int_of r]; exact .int i
  | _, .str i, _, _, r => by rw [str_of r]; exact .str i
  | n + 1, .tup xs, _, f, r => by
    obtain ⟨a, vs, rfl, t, rl⟩ := tup_of r
    simp only [D.flat] at f
    simp only [D.py]
    exact .tup t.seq (dp_ofL n xs vs f rl)
  | n + 1, .lst xs, _, f, r => by
    obtain ⟨a, vs, rfl, ⟨_, t⟩, rl⟩ := lst_of r
    simp only [D.flat] at f
    simp only [D.py]
    exact .lst (.inl (.inl t)) (dp_ofL n xs vs f rl)
  | 0, .tup xs, _, f, _ => by simp [D.flat] at f
  | 0, .lst xs, _, f, _ => by simp [D.flat] at f
  | n, .frz xs, _, f, _ => by simp [D.flat] at f
  | n, .ins _ _ _, _, f, _ => by simp [D.flat] at f
  | n, .hand, _, f, _ => by simp [D.flat] at f
theorem dp_ofL {H : Hp} {N : NS} {ph : Option Addr} : ∀ (n : Nat) (ds : List D) (vs : List V), D.flatL n ds = true → RepL K cm H N ph ds vs → L2.DpAll K H vs (D.pyL ds)
  | _, [], _, _, r => by cases r.unnil; simp only [D.pyL]; exact .nil
  | n, d :: ds, _, f, r => by
    obtain ⟨v, vs, rfl, r1, r2⟩ := r.uncons
    simp only [D.flatL, Bool.and_eq_true] at f
    simp only [D.pyL]
    exact .cons (dp_of n d v f.1 r1) (dp_ofL n ds vs f.2 r2)
end
mutual
theorem py_lay : ∀ (n : Nat) (d : D), D.flat n d = true → d.py.canLay0 = true ∧ d.py.depth ≤ n
  | n, .non, _ => by simp [D.py, PyData.canLay0, PyData.depth]
  | n, .bl b, _ => by simp [D.py, PyData.canLay0, PyData.depth]
  | n, .int i, _ => by simp [D.py, PyData.canLay0, PyData.depth]
  | n, .str i, f => by
    refine ⟨?_, by simp [D.py, PyData.depth]⟩
    simp only [D.py, PyData.canLay0]
    simpa [D.flat, PyData.strOk] using f
  | n + 1, .tup xs, f => by
    simp only [D.flat] at f
    obtain ⟨h1, h2⟩ := py_layL n xs f
    simp only [D.py, PyData.canLay0, PyData.depth]
    exact ⟨h1, by omega⟩
  | n + 1, .lst xs, f => by
    simp only [D.flat] at f
    obtain ⟨h1, h2⟩ := py_layL n xs f
    simp only [D.py, PyData.canLay0, PyData.depth]
    exact ⟨h1, by omega⟩
  | 0, .tup xs, f => by simp [D.flat] at f
  | 0, .lst xs, f => by simp [D.flat] at f
  | n, .frz xs, f => by simp [D.flat] at f
  | n, .ins _ _ _, f => by simp [D.flat] at f
  | n, .hand, f => by simp [D.flat] at f
theorem py_layL : ∀ (n : Nat) (ds : List D), D.flatL n ds = true → PyData.canLayAll0 (D.pyL ds) = true ∧ PyData.depthAll (D.pyL ds) ≤ n
  | n, [], _ => by simp [D.pyL, PyData.canLayAll0, PyData.depthAll]
  | n, d :: ds, f => by
    simp only [D.flatL, Bool.and_eq_true] at f
    obtain ⟨h1, h2⟩ := py_lay n d f.1
    obtain ⟨h3, h4⟩ := py_layL n ds f.2
    simp only [D.pyL, PyData.canLayAll0, PyData.depthAll, h1, h3, Bool.and_self, true_and]
    omega
end
mutual
theorem py_eqv : ∀ (n m : Nat) (d e : D), D.flat n d = true → D.flat m e = true → PyData.eqv d.py e.py = D.eqv d e
  | n, m, .non, e, f, g => by cases e <;> first | (simp [D.flat] at g; done) | simp [D.py, PyData.eqv, D.eqv]
  | n, m, .bl b, e, f, g => by cases e <;> first | (simp [D.flat] at g; done) | simp [D.py, PyData.eqv, D.eqv]
  | n, m, .int i, e, f, g => by cases e <;> first | (simp [D.flat] at g; done) | simp [D.py, PyData.eqv, D.eqv]
  | n, m, .str x, e, f, g => by cases e <;> first | (simp [D.flat] at g; done) | simp [D.py, PyData.eqv, D.eqv]
  | n + 1, m, .tup xs, e, f, g => by
    cases e with
    | tup ys =>
      cases m with
      | zero => simp [D.flat] at g
      | succ m =>
        simp only [D.flat] at f g
        simp only [D.py, PyData.eqv, D.eqv]
        exact py_eqvL n m xs ys f g
    | _ => first | (simp [D.flat] at g; done) | simp [D.py, PyData.eqv, D.eqv]
  | n + 1, m, .lst xs, e, f, g => by
    cases e with
    | lst ys =>
      cases m with
      | zero => simp [D.flat] at g
      | succ m =>
        simp only [D.flat] at f g
        simp only [D.py, PyData.eqv, D.eqv]
        exact py_eqvL n m xs ys f g
    | _ => first | (simp [D.flat] at g; done) | simp [D.py, PyData.eqv, D.eqv]
  | 0, _, .tup xs, _, f, _ => by simp [D.flat] at f
  | 0, _, .lst xs, _, f, _ => by simp [D.flat] at f
  | n, _, .frz xs, _, f, _ => by simp [D.flat] at f
  | n, _, .ins _ _ _, _, f, _ => by simp [D.flat] at f
  | n, _, .hand, _, f, _ => by simp [D.flat] at f
theorem py_eqvL : ∀ (n m : Nat) (d e : List D), D.flatL n d = true → D.flatL m e = true → PyData.eqvAll (D.pyL d) (D.pyL e) = D.eqvL d e
  | n, m, [], e, f, g => by cases e <;> simp [D.pyL, PyData.eqvAll, D.eqvL]
  | n, m, x :: xs, [], f, g => by simp [D.pyL, PyData.eqvAll, D.eqvL]
  | n, m, x :: xs, y :: ys, f, g => by
    simp only [D.flatL, Bool.and_eq_true] at f g
    simp only [D.pyL, PyData.eqvAll, D.eqvL]
    rw [py_eqv n m x y f.1 g.1, py_eqvL n m xs ys f.2 g.2]
end
theorem py_shaped {d : D} (f : D.flat 60 d = true) : SeqAt.shaped d.py = true := by
  obtain ⟨h1, h2⟩ := py_lay 60 d f
  unfold SeqAt.shaped
  rw [h1, decide_eq_true (by omega)]; rfl
theorem eq_ok : Op2 K cm eqD (L2.rEqD K) := by
  intro xa O Wx ρ σ ph H w Q d1 d2 v1 v2 r1 r2 h
  unfold eqD at h
  by_cases hc : D.flat 60 d1 = true ∧ D.flat 60 d2 = true
  · rw [if_pos hc] at h
    exact ⟨_, _, dp_of 60 _ _ hc.1 r1, dp_of 60 _ _ hc.2 r2, py_shaped hc.1, py_shaped hc.2, h.ret (by show Rep K cm _ _ _ _ _; simp only [Rep]; rw [py_eqv 60 60 _ _ hc.1 hc.2])⟩
  · rw [if_neg hc] at h; exact h.no
theorem ne_ok : Op2 K cm neD (L2.rNeD K) := by
  intro xa O Wx ρ σ ph H w Q d1 d2 v1 v2 r1 r2 h
  unfold neD at h
  by_cases hc : D.flat 60 d1 = true ∧ D.flat 60 d2 = true
  · rw [if_pos hc] at h
    exact ⟨_, _, dp_of 60 _ _ hc.1 r1, dp_of 60 _ _ hc.2 r2, py_shaped hc.1, py_shaped hc.2, h.ret (by show Rep K cm _ _ _ _ _; simp only [Rep]; rw [py_eqv 60 60 _ _ hc.1 hc.2])⟩
  · rw [if_neg hc] at h; exact h.no
theorem isNon_rep {H : Hp} {N : NS} {ph : Option Addr} {d : D} {v : V} (r : Rep K cm H N ph d v) : decide (v = .non) = d.isNon := by
  cases d with
  | non => rw [non_of r]; rfl
  | bl b => rw [bl_of r]; rfl
  | int i => rw [int_of r]; rfl
  | str x => rw [str_of r]; rfl
  | tup xs => obtain ⟨a, vs, rfl, _⟩ := tup_of r; rfl
  | lst xs => obtain ⟨a, vs, rfl, _⟩ := lst_of r; rfl
  | frz xs => obtain ⟨a, vs, rfl, _⟩ := frz_of r; rfl
  | ins c ns xs => simp only [Rep] at r; obtain ⟨a, dx, vs, rfl, _⟩ := r; rfl
  | hand => simp only [Rep] at r; obtain ⟨p, _, rfl⟩ := r; rfl
theorem isNon_ok : Op2 K cm isNonD (fun x y H Q => y = .non ∧ Q (.bl (decide (x = .non))) H) := by
  intro xa O Wx ρ σ ph H w Q d1 d2 v1 v2 r1 r2 h
  cases d2 <;> try exact h.no
  exact ⟨non_of r2, by rw [isNon_rep r1]; exact h.ret (b := .bl d1.isNon) (by simp [Rep])⟩
theorem notNon_ok : Op2 K cm notNonD (fun x y H Q => y = .non ∧ Q (.bl (!decide (x = .non))) H) := by
  intro xa O Wx ρ σ ph H w Q d1 d2 v1 v2 r1 r2 h
  cases d2 <;> try exact h.no
  exact ⟨non_of r2, by rw [isNon_rep r1]; exact h.ret (b := .bl (!d1.isNon)) (by simp [Rep])⟩
theorem ixP_eq (n : Nat) (i : Int) : L2.ixN n i = ixP n i := by
  unfold L2.ixN ixP
  by_cases h0 : 0 ≤ i
  · by_cases h1 : i < n
    · simp [h0, h1]
    · have h2 : ¬ i < 0 := by omega
      simp [h0, h1, h2]
  · have h2 : i < 0 := by omega
    by_cases h1 : -(n : Int) ≤ i
    · have h3 : 0 ≤ i + n := by omega
      simp [h0, h1, h2, h3]
    · have h3 : ¬ 0 ≤ i + n := by omega
      simp [h0, h1, h2, h3]
theorem itemAt_eq {α : Type} (xs : List α) (i : Int) : L2.atI xs i = itemAt xs i := by
  unfold L2.atI itemAt
  rw [ixP_eq]
  cases ixP xs.length i <;> rfl
theorem RepL.item {H : Hp} {N : NS} {ph : Option Addr} {ds : List D} {vs : List V} {i : Int} {d : D} (r : RepL K cm H N ph ds vs) (e : itemAt ds i = some d) : ∃ v, L2.atI vs i = some v ∧ Rep K cm H N ph d v := by
  rw [itemAt_eq]
  unfold itemAt at e ⊢
  rw [← r.length]
  cases q : ixP ds.length i with
  | none => rw [q] at e; cases e
  | some j => rw [q] at e; exact r.get e
theorem ixL_run {xa O Wx ρ σ ph H w} {Q : VK} {ds : List D} {vs : List V} {d2 : D} {v2 : V} (r : RepL K cm H (OO O ph) ph ds vs) (r2 : Rep K cm H (OO O ph) ph d2 v2) (h : Run K cm xa O (relV K cm O) Wx ρ σ ph H w (ixL ds d2) Q) :
    ∃ i v, v2 = .int i ∧ L2.atI vs i = some v ∧ Q v H := by
  cases d2 with
  | int i =>
    unfold ixL at h
    simp only at h
    cases e : itemAt ds i with
    | none => rw [e] at h; exact h.no
    | some d =>
      rw [e] at h
      obtain ⟨v, e1, r3⟩ := r.item e
      exact ⟨i, v, int_of r2, e1, h.ret r3⟩
  | _ => exact h.no
theorem ix_ok : Op2 K cm ixD (L2.rIx K) := by
  intro xa O Wx ρ σ ph H w Q d1 d2 v1 v2 r1 r2 h
  cases d1 with
  | lst ds =>
    obtain ⟨a, vs, rfl, ⟨_, t⟩, rl⟩ := lst_of r1
    obtain ⟨i, v, e1, e2, q⟩ := ixL_run rl r2 h
    exact .inl ⟨a, vs, i, v, rfl, e1, .inl (.inl t), e2, q⟩
  | frz ds =>
    obtain ⟨a, vs, rfl, t, rl⟩ := frz_of r1
    obtain ⟨i, v, e1, e2, q⟩ := ixL_run rl r2 h
    exact .inl ⟨a, vs, i, v, rfl, e1, t.seq, e2, q⟩
  | tup ds =>
    obtain ⟨a, vs, rfl, t, rl⟩ := tup_of r1
    obtain ⟨i, v, e1, e2, q⟩ := ixL_run rl r2 h
    exact .inr (.inl ⟨a, vs, i, v, rfl, e1, t.seq, e2, q⟩)
  | hand =>
    simp only [Rep] at r1
    obtain ⟨p, rfl, rfl⟩ := r1
    have ha := h.hand
    cases w with
    | none => exact ha.elim
    | some hs =>
      obtain ⟨vs, t, rl⟩ := ha
      obtain ⟨i, v, e1, e2, q⟩ := ixL_run rl r2 (⟨h.env, h.hand, h.post⟩ : Run K cm xa O (relV K cm O) Wx ρ σ (some p) H (some hs) (ixL hs d2) Q)
      exact .inl ⟨p, vs, i, v, rfl, e1, .inl (.inl t), e2, q⟩
  | _ => exact h.no
theorem px_ix {a b : Expr} {fa fb : EF} {c : Cfg} {pos : Pos} (ha : PX X c a fa) (hb : PX X c b fb) (hs : L2.PlainIx b := by exact fun _ _ => rfl) : PX X c (.Subscript a b pos) (eBin ixD fa fb) :=
  PE.to (L2.pe_ix L2.ix_seq ha hb hs) (bin_to ix_ok)
theorem cutAt_eq (n d : Nat) (o : Option Int) : HT.sIx n d o = cutAt n d o := by
  cases o with
  | none => rfl
  | some i =>
    show (if i < 0 then (i + (n : Int)).toNat else min i.toNat n) = (if 0 ≤ i then min i.toNat n else (i + (n : Int)).toNat)
    by_cases h : i < 0
    · rw [if_pos h, if_neg (by omega)]
    · rw [if_neg h, if_pos (by omega)]
theorem cutL_eq (vs : List V) (lo hi : Option Int) : L2.cutV vs lo hi = cutL vs lo hi := by
  unfold L2.cutV cutL
  rw [cutAt_eq, cutAt_eq]
theorem RepL.cut {H : Hp} {N : NS} {ph : Option Addr} {ds : List D} {vs : List V} (r : RepL K cm H N ph ds vs) (lo hi : Option Int) : RepL K cm H N ph (cutL ds lo hi) (cutL vs lo hi) := by
  unfold cutL
  rw [← r.length]
  exact (r.drop _).take _
def rSlA (K : PySem.W.Frag) : V → Option Int → Option Int → Hp → VK → Prop := fun x lo hi H Q => L2.rSlL K x lo hi H Q ∨ L2.rSlT K x lo hi H Q
theorem sl_all : L2.SlR X (rSlA X.K) := L2.SlR.or L2.sl_list L2.sl_tup
theorem slice_ok {xa O Wx ρ σ ph H w} {Q : VK} {d : D} {v : V} {lo hi : Option Int} (r : Rep K cm H (OO O ph) ph d v) (h : Run K cm xa O (relV K cm O) Wx ρ σ ph H w (sliceD d lo hi) Q) : rSlA K v lo hi H Q := by
  cases d with
  | lst ds =>
    obtain ⟨a, vs, rfl, ⟨_, t⟩, rl⟩ := lst_of r
    exact .inl ⟨a, vs, rfl, .inl (.inl t), fun p hp => by rw [cutL_eq]; exact h.lst hp (rl.cut lo hi)⟩
  | tup ds =>
    obtain ⟨a, vs, rfl, t, rl⟩ := tup_of r
    by_cases hc : ¬ (cutAt ds.length 0 lo = 0 ∧ cutAt ds.length ds.length hi = ds.length)
    · simp only [sliceD, if_pos hc] at h
      exact .inr ⟨a, vs, rfl, t.seq, by rw [cutAt_eq, cutAt_eq, ← rl.length]; exact hc, fun p hp => by rw [cutL_eq]; exact h.tup hp (rl.cut lo hi)⟩
    · simp only [sliceD, if_neg hc] at h; exact h.no
  | _ => exact h.no
abbrev partF : Option EF → Env → M (Option Int) := fun o ρ => match o with
  | none => M.ret none
  | some e => M.bind (e ρ) fun y => match y with | .int i => M.ret (some i) | _ => M.fail
def relO : Hp → Option Addr → Option Int → Option Int → Prop := fun _ _ a b => a = b
abbrev POX (X : Cx) (c : Cfg) (e : Option Expr) (f : Option EF) : Prop := L2.PO X e fun σ H Q => ∃ O ρ ph w, Run X.K c.cm c.xa O relO c.Wx ρ σ ph H w (partF f ρ) Q
theorem PO.to {e : Option Expr} {t t' : L2.TO} (h : L2.PO X e t) (m : ∀ σ H Q, t' σ H Q → t σ H Q) : L2.PO X e t' := by
  obtain ⟨h⟩ := h
  exact ⟨fun pins s σ H Q I q => h pins s σ H Q I (m σ H Q q)⟩
variable {c : Cfg}
theorem pox_none : POX X c none none := PO.to L2.po_none fun σ H Q ⟨O, ρ, ph, w, h⟩ => h.ret (b := none) rfl
theorem pox_some {e : Expr} {fe : EF} (h : PX X c e fe) : POX X c (some e) (some fe) := PO.to (L2.po_some h) fun σ H Q ⟨O, ρ, ph, w, h⟩ => ⟨O, ρ, ph, w, h.bind.imp fun v H1 ⟨d, ph1, w1, e1, s1, r1, h1⟩ => by
  cases d with
  | int i => exact ⟨i, int_of r1, h1.ret (b := some i) rfl⟩
  | _ => exact h1.no⟩
theorem px_slice {e : Expr} {fe : EF} {lo hi : Option Expr} {fl fh : Option EF} {p2 pos : Pos} (he : PX X c e fe) (hl : POX X c lo fl) (hu : POX X c hi fh) : PX X c (.Subscript e (.Slice lo hi none p2) pos) (eSlice fe fl fh) :=
  PE.to (L2.pe_slice sl_all he hl hu) fun σ H Q ⟨O, ρ, ph, w, h⟩ => ⟨O, ρ, ph, w, h.bind.imp fun v H1 ⟨d, ph1, w1, e1, s1, r1, h1⟩ =>
    ⟨O, ρ, ph1, w1, (Run.bind (rel := relO) h1).imp fun l H2 ⟨l', ph2, w2, e2, s2, r2, h2⟩ => ⟨O, ρ, ph2, w2, (Run.bind (rel := relO) h2).imp fun u H3 ⟨u', ph3, w3, e3, s3, r3, h3⟩ => by
      cases r2; cases r3
      exact slice_ok (Rep.keep (Ext.keep e3 s3) s3.m d v (Rep.keep (Ext.keep e2 s2) s2.m d v r1)) h3⟩⟩⟩
def un1 (f : D → M D) : List D → M D
  | [d] => f d
  | _ => M.fail
def bin2 (f : D → D → M D) : List D → M D
  | [d, e] => f d e
  | _ => M.fail
theorem un1_run {xa O Wx ρ σ ph H w} {Q : VK} {f : D → M D} {ds : List D} {vs : List V} (r : RepL K cm H (OO O ph) ph ds vs) (h : Run K cm xa O (relV K cm O) Wx ρ σ ph H w (un1 f ds) Q) :
    ∃ d v, vs = [v] ∧ Rep K cm H (OO O ph) ph d v ∧ Run K cm xa O (relV K cm O) Wx ρ σ ph H w (f d) Q := by
  cases ds with
  | nil => exact h.no
  | cons d ds =>
    cases ds with
    | nil =>
      obtain ⟨v, vs, rfl, r1, r2⟩ := r.uncons
      cases r2.unnil
      exact ⟨d, v, rfl, r1, h⟩
    | cons => exact h.no
theorem bin2_run {xa O Wx ρ σ ph H w} {Q : VK} {f : D → D → M D} {ds : List D} {vs : List V} (r : RepL K cm H (OO O ph) ph ds vs) (h : Run K cm xa O (relV K cm O) Wx ρ σ ph H w (bin2 f ds) Q) :
    ∃ d e v u, vs = [v, u] ∧ Rep K cm H (OO O ph) ph d v ∧ Rep K cm H (OO O ph) ph e u ∧ Run K cm xa O (relV K cm O) Wx ρ σ ph H w (f d e) Q := by
  cases ds with
  | nil => exact h.no
  | cons d ds =>
    cases ds with
    | nil => exact h.no
    | cons e ds =>
      cases ds with
      | nil =>
        obtain ⟨v, vs, rfl, r1, r2⟩ := r.uncons
        obtain ⟨u, us, rfl, r3, r4⟩ := r2.uncons
        cases r4.unnil
        exact ⟨d, e, v, u, rfl, r1, r3, h⟩
      | cons => exact h.no
theorem le_size {n : Nat} (h : n ≤ line) : n ≤ sizeLine := Nat.le_trans h (Nat.le_of_eq sizeLine_eq.symm)
theorem lenV_str {H : Hp} {x : Str} (h : x.length ≤ line) : L2.LenV K (.str x) H x.length := And.intro (le_size h) (Eq.refl _)
theorem len_ok : OpL K cm (un1 lenD) (fun xs H Q => ∃ x n, xs = [x] ∧ L2.LenV K x H n ∧ Q (.int n) H) := by
  intro xa O Wx ρ σ ph H w Q ds vs r h
  obtain ⟨d, v, rfl, r1, h1⟩ := un1_run r h
  cases d with
  | str x =>
    rw [str_of r1]
    by_cases hl : x.length ≤ line
    · rw [lenD_str, if_pos hl] at h1
      exact ⟨.str x, x.length, rfl, lenV_str hl, h1.ret (b := .int (x.length : Int)) (by simp [Rep])⟩
    · rw [lenD_str, if_neg hl] at h1; exact h1.no
  | lst ds =>
    obtain ⟨a, vs, rfl, ⟨_, t⟩, rl⟩ := lst_of r1
    exact ⟨.ref a, vs.length, rfl, .inl ⟨vs, .inl (.inl t), rfl⟩, h1.ret (b := .int (vs.length : Int)) (by simp [Rep, rl.length])⟩
  | frz ds =>
    obtain ⟨a, vs, rfl, t, rl⟩ := frz_of r1
    exact ⟨.ref a, vs.length, rfl, .inl ⟨vs, t.seq, rfl⟩, h1.ret (b := .int (vs.length : Int)) (by simp [Rep, rl.length])⟩
  | tup ds =>
    obtain ⟨a, vs, rfl, t, rl⟩ := tup_of r1
    exact ⟨.ref a, vs.length, rfl, .inr ⟨vs, t.seq, rfl⟩, h1.ret (b := .int (vs.length : Int)) (by simp [Rep, rl.length])⟩
  | hand =>
    simp only [Rep] at r1
    obtain ⟨p, rfl, rfl⟩ := r1
    have ha := h1.hand
    cases w with
    | none => exact ha.elim
    | some hs =>
      obtain ⟨vs, t, rl⟩ := ha
      exact ⟨.ref p, vs.length, rfl, .inl ⟨vs, .inl (.inl t), rfl⟩, (⟨h1.env, h1.hand, h1.post⟩ : Run K cm xa O (relV K cm O) Wx ρ σ (some p) H (some hs) (M.ret (.int hs.length)) Q).ret (b := .int (vs.length : Int)) (by simp [Rep, rl.length])⟩
  | _ => exact h1.no
theorem int_ok : OpL K cm (un1 intD) (fun xs H Q => (∃ i, xs = [.int i] ∧ Q (.int i) H) ∨ ∃ k, xs = [.bl k] ∧ Q (.int (if k then 1 else 0)) H) := by
  intro xa O Wx ρ σ ph H w Q ds vs r h
  obtain ⟨d, v, rfl, r1, h1⟩ := un1_run r h
  cases d with
  | int i => rw [int_of r1]; exact .inl ⟨i, rfl, h1.ret (b := .int _) (by simp [Rep])⟩
  | bl i => rw [bl_of r1]; exact .inr ⟨i, rfl, h1.ret (b := .int _) (by simp [Rep])⟩
  | _ => exact h1.no
theorem abs_ok : OpL K cm (un1 absD) (fun xs H Q => ∃ i, xs = [.int i] ∧ Q (.int (if i < 0 then -i else i)) H) := by
  intro xa O Wx ρ σ ph H w Q ds vs r h
  obtain ⟨d, v, rfl, r1, h1⟩ := un1_run r h
  cases d with
  | int i => rw [int_of r1]; exact ⟨i, rfl, h1.ret (b := .int _) (by simp [Rep])⟩
  | _ => exact h1.no
theorem gcd_ok : OpL K cm (bin2 gcdD) L2.rGcd := by
  intro xa O Wx ρ σ ph H w Q ds vs r h
  obtain ⟨d, e, v, u, rfl, r1, r2, h1⟩ := bin2_run r h
  cases d <;> cases e <;> try exact h1.no
  rename_i i j
  exact ⟨i, j, by rw [int_of r1, int_of r2], h1.ret (b := .int _) (by simp [Rep])⟩
theorem tuple_ok : OpL K cm (un1 tupD) (fun xs H Q => ∃ p ys, xs = [.ref p] ∧ ((L2.SqL K H p ys ∧ ∀ l, H l = none → Q (.ref l) (upd H l (.tup ys))) ∨ (L2.SqT K H p ys ∧ Q (.ref p) H))) := by
  intro xa O Wx ρ σ ph H w Q ds vs r h
  obtain ⟨d, v, rfl, r1, h1⟩ := un1_run r h
  cases d with
  | lst ds =>
    obtain ⟨a, vs, rfl, ⟨_, t⟩, rl⟩ := lst_of r1
    exact ⟨a, vs, rfl, .inl ⟨.inl (.inl t), fun p hp => h1.tup hp rl⟩⟩
  | tup ds =>
    obtain ⟨a, vs, rfl, t, rl⟩ := tup_of r1
    exact ⟨a, vs, rfl, .inr ⟨t.seq, h1.ret r1⟩⟩
  | _ => exact h1.no
theorem list_ok : OpL K cm (un1 listD) (fun xs H Q => ∃ p ys, xs = [.ref p] ∧ (L2.SqL K H p ys ∨ L2.SqT K H p ys) ∧ ∀ l, H l = none → Q (.ref l) (upd H l (.lst ys))) := by
  intro xa O Wx ρ σ ph H w Q ds vs r h
  obtain ⟨d, v, rfl, r1, h1⟩ := un1_run r h
  cases d with
  | lst ds =>
    obtain ⟨a, vs, rfl, ⟨_, t⟩, rl⟩ := lst_of r1
    exact ⟨a, vs, rfl, .inl (.inl (.inl t)), fun p hp => h1.lst hp rl⟩
  | tup ds =>
    obtain ⟨a, vs, rfl, t, rl⟩ := tup_of r1
    exact ⟨a, vs, rfl, .inr t.seq, fun p hp => h1.lst hp rl⟩
  | _ => exact h1.no
end
end FL
namespace FL
open PySem L2 PyProof.Rows PySem.Spec
section
variable {X : Cx} {e1 : Expr} {es : List Expr} {t1 : TA} {at_ : Pos}
theorem passN : Passes (L2N.CX X.prog X.w) X (fun _ _ _ => False) := fun _ _ _ _ _ _ _ c => by
  obtain ⟨_, _, _, _, _, _, _, _, _, _, _, _, no⟩ := c
  exact no.elim
theorem pmkN {CT : CXT} {nx : Str} {Cl ini : Addr} {lv : Nat} {fdat : FuncData} {pps : List Str} {spc : Sp} {dvals : List Value} {dvv : List V} {np : Pos} (T : OexC X.K Cl) (hI : PySem.W.findIn X.K (.ref Cl) "__init__" = some (some (.ref ini)))
    (hT : PySem.W.typeIn X.K (.ref ini) = some (.type "function")) (Fn : FnOk X.prog X.w X.K X.mg X.base CT lv ini fdat pps spc) (room : Room (lv + 1) X.A) (bi : Binds X.K fdat pps dvals) (dv : Vals dvv dvals) (pass : Passes CT X (fun _ _ _ => False))
    (gl : Gl X nx) (mg : X.mg nx = some (.ref Cl)) (args : PA X (e1 :: es) t1) (ndb : (nx == ("__debug__" : Str)) = false := by decide) (st : starEach (e1 :: es) X.env = (false, eval e1 X.env) :: starEach es X.env := by rfl) (pl : (backTo at_ (starEach es X.env)).any (·.1) = false := by rfl) :
    L2N.PMk X (.Call (.Name nx np) (e1 :: es) [] at_) (tMkO Cl spc dvv t1) := by
  intro pp s0 z g W I0 want
  obtain ⟨n1, n2, n3, n4, bm, n6, n7, n8, n9, n10, k0, k1, k2, k3, k5, hC, hbm⟩ := T.cls
  refine wpAny_Call_Name_kw (ld_glob I0 gl mg ?_ ndb)
  refine PySem.W.callWith_K (h₀ := X.base) I0.ok.mod.kin T.kC (thn (args.run at_ pp s0 z g _ I0 want) fun us s1 got => ?_) st pl
  obtain ⟨vs, g1, J, rel, size, q1⟩ := got
  refine ⟨J.kIn, ?_⟩
  show wpAny _ _ (call (.ref Cl) us) _ _ _
  obtain ⟨hp, gen, dr, tk, os⟩ := s1
  generalize hnx : hp.objs.size + 1 = nw at *
  have le : hp.objs.size ≤ nw := by omega
  have q2 := q1 nw (J.hok.fresh le)
  generalize hh2 : (hp.push (PySem.W.kdv_tup us)).push (PySem.HandSPX.excO Cl hp.objs.size) = h2
  have grow : ∀ b o, hp.get? b = some o → h2.get? b = some o := fun b o e => by rw [← hh2]; exact Heap.get?_push_of_some _ (Heap.get?_push_of_some _ e)
  have there : h2.get? nw = some (PySem.HandSPX.excO Cl hp.objs.size) := by rw [← hh2, ← hnx]; heap_get
  have J2 : Inv X pp z (upd g1 nw (exo nw Cl none)) ⟨h2, gen, dr, tk, os⟩ := J.laid (t' := tk) (a := nw) (o := exo nw Cl none) (h' := h2) grow le (exo_ok there)
  have rel2 : Vals (V.ref nw :: (vs ++ dvv)) (Value.ref nw :: (us ++ dvals)) := .cons rfl (rel.append dv)
  have len2 : (Value.ref nw :: us ++ dvals).length = pps.length := by
    have := rel2.length
    rw [Fn.len _ _ _ _ q2] at this
    exact this.symm
  have few : us.length ≤ sizeLine := by
    rw [← Paired.length rel, sizeLine_eq]
    omega
  have runs := Fn.run _ X.stack _ _ ⟨Value.ref nw :: us, []⟩ (Value.ref nw :: (us ++ dvals)) _ _ (fun _ _ _ => False) (room.make Cl us []) (J2.env0.make Cl us []) (bi _ (Value.ref nw :: us) J2.kIn len2) rel2 q2
  subst hh2 hnx
  refine wpAny_call (PySem.HandSPX.call_own F.excBase_ValueError (fun Y => PySem.HandSPX.refsVE_contains Y bm hbm) (J.kIn _ _ hC) (PySem.W.looks_findIn J.kIn hI) (fun me => PySem.W.bind_fn J.kIn me hT) few (codeAny_mono runs fun r s' end_ => ?_))
  match r, end_ with
  | .error er, end_ => exact pass pp z _ _ er s' J2 end_
  | .ok .next, end_ => exact False.elim end_
  | .ok .brk, end_ => exact False.elim end_
  | .ok .cont, end_ => exact False.elim end_
  | .ok (.ret u), end_ =>
    obtain ⟨v, g2, o2, b2, un2, hok2, rv, ev, d, fs, ea, ed, dn, q3⟩ := end_
    subst ev
    obtain ⟨h3, gen3, dr3, tk3, os3⟩ := s'
    obtain ⟨t0, G, J3, kG, ge, hoe, na⟩ := mk_end0 (d2 := dr3) (t2 := tk3) J le grow un2 hok2 o2 b2 ea ed dn
    exact ⟨rv, hp.objs.size + 1, _, _, ⟨G, gen3, dr3, tk3, os3⟩, _, .ref Cl, some d, rfl, J3, kG, ge, hoe, ⟨rfl, rfl, fun ws hw => (by cases hw; rfl)⟩, rfl, rfl, na, rfl, b2, raises_own T.exC T.tyC, q3⟩
end
end FL
namespace FL
open PySem
open L2 (V Hp HO Cx Inv VK XK TE TT TA TS TI TG PE PT PA PS PSs PI PG Ends WX RelV Vals Rd upd upd_same upd_ne ne_of_none EP TP AP OpR R2 CallR FnOk Room Binds)
def Ty.nm : Ty → String
  | .int => "int" | .bool => "bool" | .str => "str" | .tuple => "tuple" | .list => "list" | .dict => "dict" | .cls _ => ""
def Ty.ok : Ty → Bool
  | .cls _ => false
  | _ => true
def D.tyNm : D → Option String
  | .non => some "NoneType" | .bl _ => some "bool" | .int _ => some "int" | .str _ => some "str" | .tup _ => some "tuple" | .lst _ | .frz _ | .hand => some "list"
  | .ins _ _ _ => none
section
variable {K : PySem.W.Frag} {cm : Nat → Addr} {X : Cx} {c : Cfg} {pos : Pos}
theorem tyX_of {H : Hp} {O : NS} {ph : Option Addr} {w : Wd} {d : D} {v : V} {n : String} (hh : HandOk K cm H O ph w) (r : Rep K cm H (OO O ph) ph d v) (e : d.tyNm = some n) : L2.TyX K H v (.type n) := by
  cases d with
  | non => cases e; rw [non_of r]; exact .base .non
  | bl b => cases e; rw [bl_of r]; exact .base (.bl b)
  | int b => cases e; rw [int_of r]; exact .base (.int b)
  | str b => cases e; rw [str_of r]; exact .base (.str b)
  | tup ds =>
    cases e
    obtain ⟨a, vs, rfl, t, _⟩ := tup_of r
    rcases t with ⟨_, t | ⟨o, t⟩⟩ | ⟨o, its, k, h1, h2, _⟩
    · exact .base (.tup t)
    · exact .fTuple t
    · exact .kTuple h1 h2
  | lst ds =>
    cases e
    obtain ⟨a, vs, rfl, ⟨_, t⟩, _⟩ := lst_of r
    exact .base (.lst t)
  | frz ds =>
    cases e
    obtain ⟨a, vs, rfl, t, _⟩ := frz_of r
    rcases t with ⟨_, t | ⟨o, t⟩⟩ | ⟨o, its, k, h1, h2, _⟩
    · exact .base (.lst t)
    · exact .base (.frz t)
    · exact .kList h1 h2
  | hand =>
    cases e
    simp only [Rep] at r
    obtain ⟨p, e, rfl⟩ := r
    obtain ⟨vs, t⟩ := hh.tr e
    exact .base (.lst t)
  | ins => cases e
theorem kit_all (t : Ty) (ht : t.ok = true) (d : D) {n : String} (e : d.tyNm = some n) : L2.kitB n t.nm = some (isT t d) := by
  cases d <;> simp only [D.tyNm, Option.some.injEq, reduceCtorEq] at e <;> subst e <;> cases t <;> first | (cases ht; done) | (simp only [isT, Ty.nm]; decide +kernel)
def isiB (ts : List Ty) (d : D) : M D := match d.tyNm with
  | some _ => if ts.all Ty.ok = true then M.ret (.bl (ts.any fun t => isT t d)) else M.fail
  | none => M.fail
theorem isi_run {xa O Wx ρ σ ph H w} {Q : VK} {ts : List Ty} {d : D} (h : Run K cm xa O (relV K cm O) Wx ρ σ ph H w (isiB ts d) Q) : ∃ n, d.tyNm = some n ∧ ts.all Ty.ok = true ∧ Run K cm xa O (relV K cm O) Wx ρ σ ph H w (M.ret (.bl (ts.any fun t => isT t d))) Q := by
  unfold isiB at h
  cases e : d.tyNm with
  | none => rw [e] at h; exact h.no
  | some n =>
    rw [e] at h
    by_cases hc : ts.all Ty.ok = true
    · simp only [if_pos hc] at h; exact ⟨n, rfl, hc, h⟩
    · simp only [if_neg hc] at h; exact h.no
theorem px_isi {e : Expr} {fe : EF} {x : Str} {p p2 : Pos} (t : Ty) (hg : L2.Gl X "isinstance") (hm : X.mg "isinstance" = none) (hgT : L2.Gl X x) (hmT : X.mg x = none) (hvT : bootBuiltins x = some (.type t.nm)) (he : PX X c e fe)
    (hnT : x ≠ "__name__" := by decide) (hdT : (x == ("__debug__" : Str)) = false := by decide) (hv : bootBuiltins "isinstance" = some (.builtin "isinstance") := by decide +kernel)
    (hs : starEach (e :: [.Name x p2]) X.env = (false, eval e X.env) :: starEach [.Name x p2] X.env := by rfl) (hpl : (backTo pos (starEach [.Name x p2] X.env)).any (·.1) = false := by rfl) : PX X c (.Call (.Name "isinstance" p) (e :: [.Name x p2]) [] pos) (eUn (isiB [t]) fe) :=
  PE.to (L2.pe_callB L2.call_isi hg hm hv (L2.pa_cons he (L2.pa_cons (L2.pe_bltn (v := .ty t.nm) hgT hmT hvT rfl hnT hdT) L2.pa_nil (by rfl)) hs) (by decide) (by decide) hs hpl) fun σ H Q ⟨O, ρ, ph, w, h⟩ => ⟨O, ρ, ph, w, h.bind.imp fun v H1 ⟨d, ph1, w1, e1, s1, r1, h1⟩ => by
    obtain ⟨n, en, hk, h2⟩ := isi_run h1
    simp only [List.all_cons, List.all_nil, Bool.and_true] at hk
    exact ⟨v, .ty t.nm, .type n, .type t.nm, _, rfl, .ty _, tyX_of h2.hand r1 en, L2.kit_ty (kit_all t hk d en), h2.ret (b := .bl (isT t d)) (by simp [Rep])⟩⟩
theorem px_isi2 {e : Expr} {fe : EF} {x y : Str} {p p2 p3 p4 : Pos} {k : Nat} (t u : Ty) (hg : L2.Gl X "isinstance") (hm : X.mg "isinstance" = none) (hgT : L2.Gl X x) (hmT : X.mg x = none) (hvT : bootBuiltins x = some (.type t.nm)) (hgU : L2.Gl X y) (hmU : X.mg y = none) (hvU : bootBuiltins y = some (.type u.nm)) (he : PX X c e fe)
    (hnT : x ≠ "__name__" := by decide) (hdT : (x == ("__debug__" : Str)) = false := by decide) (hnU : y ≠ "__name__" := by decide) (hdU : (y == ("__debug__" : Str)) = false := by decide) (hv : bootBuiltins "isinstance" = some (.builtin "isinstance") := by decide +kernel)
    (hs : starEach (e :: [.Tuple [.Name x p2, .Name y p3] k p4]) X.env = (false, eval e X.env) :: starEach [.Tuple [.Name x p2, .Name y p3] k p4] X.env := by rfl) (hpl : (backTo pos (starEach [.Tuple [.Name x p2, .Name y p3] k p4] X.env)).any (·.1) = false := by rfl) :
    PX X c (.Call (.Name "isinstance" p) (e :: [.Tuple [.Name x p2, .Name y p3] k p4]) [] pos) (eUn (isiB [t, u]) fe) :=
  PE.to (L2.pe_callB L2.call_isiT hg hm hv (L2.pa_cons he (L2.pa_cons (L2.pe_tup (L2.pa_cons (L2.pe_bltn (v := .ty t.nm) hgT hmT hvT rfl hnT hdT) (L2.pa_cons (L2.pe_bltn (v := .ty u.nm) hgU hmU hvU rfl hnU hdU) L2.pa_nil (by rfl)) (by rfl))) L2.pa_nil (by rfl)) hs) (by decide) (by decide) hs hpl)
    fun σ H Q ⟨O, ρ, ph, w, h⟩ => ⟨O, ρ, ph, w, h.bind.imp fun v H1 ⟨d, ph1, w1, e1, s1, r1, h1⟩ => by
    obtain ⟨n, en, hk, h2⟩ := isi_run h1
    simp only [List.all_cons, List.all_nil, Bool.and_true, Bool.and_eq_true] at hk
    refine ⟨by show 2 ≤ sizeLine; decide, fun tp htp => ?_⟩
    have x2 : Ext ph1 H1 (upd H1 tp (.tup [.ty t.nm, .ty u.nm])) := ext_new htp
    have hd2 := h2.hand.new (o := .tup [.ty t.nm, .ty u.nm]) htp
    have r2 := Rep.keep (Ext.keep x2 .refl) (fun _ e => e) d v r1
    show L2.rIsiT X.K [v, .ref tp] (upd H1 tp (.tup [.ty t.nm, .ty u.nm])) Q
    refine ⟨v, tp, _, .type n, [.type t.nm, .type u.nm], _, rfl, upd_same, .cons (.ty _) (.cons (.ty _) .nil), tyX_of hd2 r2 en, ?_, h2.ret_at (b := .bl ([t, u].any fun t => isT t d)) x2 hd2 (by simp [Rep])⟩
    refine L2.kitAny_cons (L2.kit_ty (kit_all t hk.1 d en)) (fun hf => L2.kitAny_cons (L2.kit_ty (kit_all u hk.2 d en)) (fun hf2 => ?_) fun hf2 => ?_) fun hf => ?_
    · simp [List.any_cons, hf, hf2, L2.kitAny_nil]
    · simp [List.any_cons, hf2]
    · simp [List.any_cons, hf]⟩
theorem px_glob {x : Str} {v : V} {u : Value} {d : D} (hg : L2.Gl X x) (hm : X.mg x = some u) (hr : RelV v u) (r : ∀ {H N ph}, Rep X.K c.cm H N ph d v) (hd : (x == ("__debug__" : Str)) = false := by decide) : PX X c (.Name x pos) (eC d) :=
  PE.to (L2.pe_glob hg hm hr hd) fun σ H Q ⟨O, ρ, ph, w, h⟩ => show Q v H from h.ret r
theorem px_gtup2 {x : Str} {a : Addr} {i j : Int} {ti tj : Tok} {dd : Option Addr} {sl : Array (Option Value)} (hg : L2.Gl X x) (hm : X.mg x = some (.ref a)) (hk : X.K.lookup a = some ⟨.type "tuple", dd, .seq #[.int i ti, .int j tj] 0, sl⟩)
    (hd : (x == ("__debug__" : Str)) = false := by decide) : PX X c (.Name x pos) (eC (.tup [.int i, .int j])) :=
  px_glob (v := .ref a) hg hm rfl (by
    intros
    simp only [Rep]
    exact ⟨a, [.int i, .int j], rfl, .inr ⟨_, _, _, hk, rfl, rfl, by rw [sizeLine_eq]; exact (by decide : 2 ≤ 16777216), .cons ⟨ti, rfl⟩ (.cons ⟨tj, rfl⟩ .nil)⟩, RepL.cons (by simp [Rep]) (RepL.cons (by simp [Rep]) RepL.nil)⟩) hd
end
def jsM : List EF → Str → Env → M Str
  | [], acc, _ => M.ret acc
  | e :: es, acc, ρ => M.bind (e ρ) fun x => match x with
    | .str y => if (acc ++ y).length ≤ line then jsM es (acc ++ y) ρ else M.fail
    | _ => M.fail
def eJs (es : List EF) : EF := fun ρ => M.bind (jsM es Str.empty ρ) fun s => M.ret (.str s)
section
variable {K : PySem.W.Frag} {cm : Nat → Addr} {X : Cx} {c : Cfg} {pos : Pos} {e : Expr} {fe : EF} {es : List Expr} {fs : List EF}
inductive PJX (X : Cx) (c : Cfg) : List Expr → List EF → Prop where
  | nil : PJX X c [] []
  | cons {e : Expr} {f : EF} {es : List Expr} {fs : List EF} (h : PX X c e f) (r : PJX X c es fs) : PJX X c (e :: es) (f :: fs)
abbrev NF := Env → M (List D)
def tNX (K : PySem.W.Frag) (cm : Nat → Addr) (xa : Option (Addr × Nat × Addr)) (Wx : WX) (f : NF) : TE := fun σ H Q => ∃ O ρ ph w, Run K cm xa O (relL K cm O) Wx ρ σ ph H w (f ρ) (fun vs H1 => ∀ p, H1 p = none → Q (.ref p) (upd H1 p (.lst vs)))
abbrev PNX (X : Cx) (c : Cfg) (e : Expr) (f : NF) : Prop := PE X e (tNX X.K c.cm c.xa c.Wx f)
theorem px_new {f : NF} (h : PNX X c e f) : PX X c e (fun ρ => M.bind (f ρ) fun xs => M.ret (.lst xs)) :=
  PE.to h fun σ H Q ⟨O, ρ, ph, w, h⟩ => ⟨O, ρ, ph, w, (Run.bind (rel := relL X.K c.cm O) h).imp fun vs H1 ⟨ds, ph1, w1, e1, s1, r1, h1⟩ p hp => h1.lst hp r1⟩
theorem pnx_lst (h : PAX X c es fs) (hl : fs.length ≤ 1000 := by decide) : PNX X c (.List es pos) (evs fs) :=
  PE.to (L2.pe_lst h) fun σ H Q ⟨O, ρ, ph, w, h⟩ => ⟨O, ρ, ph, w, by
    have h' : Run X.K c.cm c.xa O (relL X.K c.cm O) c.Wx ρ σ ph H w (M.bind (evs fs ρ) M.ret) (fun vs H1 => ∀ p, H1 p = none → Q (.ref p) (upd H1 p (.lst vs))) := by rw [bind_ret]; exact h
    have hb := h'.bind (rel := relL X.K c.cm O)
    refine ⟨hb.env, hb.hand, ?_⟩
    have hp := hb.post
    cases e : evs fs ρ w with
    | ok ds w1 =>
      rw [e] at hp
      intro vs H1 ph1 x1 s1 k1 r1
      obtain ⟨ds', ph1', w1', x1', s1', r1', h1⟩ := hp vs H1 ph1 x1 s1 k1 r1
      have l := evs_len _ _ _ _ e
      have l2 := r1.length
      exact ⟨by rw [sizeLine_eq]; omega, h1.ret r1'⟩
    | ex => rw [e] at hp; exact hp
    | bad => rw [e] at hp; exact hp⟩
def spX (K : PySem.W.Frag) (cm : Nat → Addr) (n : Nat) (F : List D → M D) : L2.Sp := fun vs H Q E => vs.length = n ∧ ∃ O ds ph w, OTr H O ph ∧ HandOk K cm H O ph w ∧ RepL K cm H (OO O ph) ph ds vs ∧
  Post1 K cm O (relV K cm O) (fun cls d _ H' => E cls d H') [] ph H Q (F ds w)
theorem post_ws {K : PySem.W.Frag} {cm : Nat → Addr} {O Wx σ ph H} {Q : VK} {r : R D} (h : Post1 K cm O (relV K cm O) Wx σ ph H Q r) : Post1 K cm O (relV K cm O) (fun cls d _ H' => Wx cls d σ H') [] ph H Q r := by
  cases r <;> exact h
theorem run_fnX {k : Nat} {f : Addr} {fd : FuncData} {ps : List Str} {ds : List Value} {dvs : List V} {n : Nat} {F : List D → M D} {pins : List (Addr × Obj)} {σ : St} {H : Hp} {s : Shared} {Q : VK} {us : List Value} {vs : List V}
    (G : FnOk X.prog X.w X.K X.mg X.base (L2N.CX X.prog X.w) k f fd ps (spX X.K cm n F)) (hr : Room k X.A) (hb : Binds X.K fd ps ds) (hd : Vals dvs ds) {Wx : WX} (hx : L2N.Takes X Wx)
    (I : Inv X pins σ H s) (r : Vals vs us) (h : spX X.K cm n F (vs ++ dvs) H Q (fun cls d H' => Wx cls d σ H')) : wpAny (model X.prog X.w) X.A (call (.ref f) us) (EP X pins σ Q) X.xe s := by
  have r2 : Vals (vs ++ dvs) (us ++ ds) := r.append hd
  have hl : (us ++ ds).length = ps.length := by rw [← r2.length]; exact G.len _ _ _ _ h
  refine wpAny_call (codeAny_mono (G.run X.A X.stack s H ⟨us, []⟩ (us ++ ds) (vs ++ dvs) Q _ hr I.env0 (hb s us I.kIn hl) r2 h) fun res s' hq => ?_)
  match res, hq with
  | .error e, hq => exact L2N.passAt hx σ pins H s e s' I hq
  | .ok (.ret u), hq => exact I.after hq
  | .ok .next, hq => exact False.elim hq
  | .ok .brk, hq => exact False.elim hq
  | .ok .cont, hq => exact False.elim hq
theorem px_call {x : Str} {p : Pos} {k : Nat} {f : Addr} {fd : FuncData} {ps : List Str} {ds : List Value} {dvs : List V} {dds : List D} {n : Nat} {F : List D → M D}
    (G : FnOk X.prog X.w X.K X.mg X.base (L2N.CX X.prog X.w) k f fd ps (spX X.K c.cm n F)) (hr : Room k X.A) (hx : L2N.Takes X c.Wx) (hg : L2.Gl X x) (hm : X.mg x = some (.ref f)) (hk : PySem.W.keepIn X.K (.ref f) = true) (hb : Binds X.K fd ps ds) (hd : Vals dvs ds)
    (hdd : ∀ {H N ph}, RepL X.K c.cm H N ph dds dvs) (ha : PAX X c (e :: es) fs) (hn : fs.length + dds.length = n := by rfl) (hdb : (x == ("__debug__" : Str)) = false := by decide) (he : starEach (e :: es) X.env = (false, eval e X.env) :: starEach es X.env := by rfl) (hpl : (backTo pos (starEach es X.env)).any (·.1) = false := by rfl) :
    PX X c (.Call (.Name x p) (e :: es) [] pos) (eCall (fun ds => F (ds ++ dds)) fs) := by
  refine ⟨fun pins s σ H Q I h => ?_⟩
  obtain ⟨O, ρ, ph, w, h⟩ := h
  have h1 := evs_run h
  refine wpAny_Call_Name_kw (L2.ld_glob I hg hm ?_ hdb)
  refine PySem.W.callWith_K (h₀ := X.base) I.ok.mod.kin hk (L2.thn (ha.run pos pins s σ H _ I ⟨O, ρ, ph, w, h1⟩) fun us s1 ⟨vs, H1, I1, r, ds', ph1, w1, l, rl, h2⟩ => ⟨I1.kIn, ?_⟩) he hpl
  refine run_fnX G hr hb hd hx I1 r ⟨?_, O, ds' ++ dds, ph1, w1, h2.env.tr, h2.hand, rl.append hdd, post_ws h2.post⟩
  rw [List.length_append, l, ← (hdd (H := H) (N := fun _ => False) (ph := none)).length]; exact hn
end
end FL
namespace FL
open PySem
open L2 (V Hp HO Cx Inv VK XK TE TT TA TS TI TG PE PT PA PS PSs PI PG Ends WX RelV Vals Rd upd upd_same upd_ne ne_of_none EP TP AP OpR R2 CallR FnOk Room Binds)
structure Sq where
  B : Hp
  O0 : NS
  ph0 : Option Addr
def OwnS (O0 : NS) (ρ : Env) (σ : St) : NS := fun a => O0 a ∨ ∃ (i : Nat) (xs : List D), ρ[i]? = some (.own xs) ∧ σ[i]? = some (some (.ref a))
def New2 (B H : Hp) (ds : List D) (v : V) : Prop := ∃ p vs, v = .ref p ∧ B p = none ∧ H p = some (.lst vs) ∧ ∀ (i : Nat) xs, ds[i]? = some (.lst xs) → ∃ b, vs[i]? = some (.ref b) ∧ B b = none ∧ ∀ j : Nat, vs[j]? = some (.ref b) → i = j
section
variable (K : PySem.W.Frag) (cm : Nat → Addr) (xa : Option (Addr × Nat × Addr)) (q : Sq)
structure StS (ρ : Env) (ph : Option Addr) (w : Wd) (σ : St) (H : Hp) : Prop where
  env : EnvE K cm xa (OwnS q.O0 ρ σ) H ph ρ σ
  hand : HandOk K cm H (OwnS q.O0 ρ σ) ph w
  base : Ext q.ph0 q.B H
  phs : PhS q.B q.ph0 ph
  o0 : OTr q.B q.O0 q.ph0
  inj : ∀ (i j : Nat) p xs ys, ρ[i]? = some (.own xs) → ρ[j]? = some (.own ys) → σ[i]? = some (some (.ref p)) → σ[j]? = some (some (.ref p)) → i = j
  fresh : ∀ (i : Nat) p xs, ρ[i]? = some (.own xs) → σ[i]? = some (some (.ref p)) → q.B p = none
  news : ∀ (i : Nat) ds v, ρ[i]? = some (.nest ds) → σ[i]? = some (some v) → New2 q.B H ds v
structure Kp (H : Hp) (N : NS) (ph : Option Addr) (H' : Hp) (N' : NS) (ph' : Option Addr) : Prop where
  k : Keep H N H' N'
  m : PhM ph ph'
abbrev NN (ρ : Env) (σ : St) (ph : Option Addr) : NS := OO (OwnS q.O0 ρ σ) ph
def Post2 (Wx : WX) (D : Ends) (H : Hp) (N : NS) (ph : Option Addr) : SR → Prop
  | .nx ρ' w' => ∀ σ' H' ph', StS K cm xa q ρ' ph' w' σ' H' → Kp H N ph H' (NN q ρ' σ' ph') ph' → D.nx σ' H'
  | .bk ρ' w' => ∀ σ' H' ph', StS K cm xa q ρ' ph' w' σ' H' → Kp H N ph H' (NN q ρ' σ' ph') ph' → D.bk σ' H'
  | .ct ρ' w' => ∀ σ' H' ph', StS K cm xa q ρ' ph' w' σ' H' → Kp H N ph H' (NN q ρ' σ' ph') ph' → D.ct σ' H'
  | .rt d w' => ∀ v H' ph', Ext q.ph0 q.B H' → PhS q.B q.ph0 ph' → HandOk K cm H' q.O0 ph' w' → Rep K cm H' (OO q.O0 ph') ph' d v → D.rt v H'
  | .ex c ns xs ρ' w' => ∀ σ' H' ph' dd vs, StS K cm xa q ρ' ph' w' σ' H' → Kp H N ph H' (NN q ρ' σ' ph') ph' → H' dd = some (.xd (ns.zip vs).reverse) → ns.length = vs.length → RepL K cm H' (NN q ρ' σ' ph') ph' xs vs → Wx (.ref (cm c)) (some dd) σ' H'
  | .bad => False
def tS (Wx : WX) (s : SF) : TS := fun D σ H => ∃ ρ ph w, StS K cm xa q ρ ph w σ H ∧ Post2 K cm xa q Wx D H (NN q ρ σ ph) ph (s ρ w)
end
abbrev PSX (X : Cx) (c : Cfg) (q : Sq) (st : Stmt) (s : SF) : Prop := PS X st (tS X.K c.cm c.xa q c.Wx s)
abbrev PSSX (X : Cx) (c : Cfg) (q : Sq) (st : List Stmt) (s : SF) : Prop := PSs X st (tS X.K c.cm c.xa q c.Wx s)
section
variable {K : PySem.W.Frag} {cm : Nat → Addr} {xa : Option (Addr × Nat × Addr)} {q : Sq} {ρ ρ' : Env} {σ : St} {H H' H1 H2 : Hp} {N N' N1 : NS} {ph ph' : Option Addr} {w w' : Wd} {Wx : WX} {D : Ends}
theorem Kp.refl : Kp H N ph H N ph := ⟨.refl, fun _ e => e⟩
theorem Kp.trans {ph1 ph2 : Option Addr} {N2 : NS} (x : Kp H N ph H1 N1 ph1) (y : Kp H1 N1 ph1 H2 N2 ph2) : Kp H N ph H2 N2 ph2 := ⟨x.k.trans y.k, fun p e => y.m p (x.m p e)⟩
theorem Keep.kp (k : Keep H N H1 N1) : Kp H N ph H1 N1 ph := ⟨k, fun _ e => e⟩
theorem Post2.keep {ph1 : Option Addr} {r : SR} (k : Kp H N ph H1 N1 ph1) (h : Post2 K cm xa q Wx D H N ph r) : Post2 K cm xa q Wx D H1 N1 ph1 r := by
  cases r with
  | nx ρ' w' => exact fun σ' H' ph' s k2 => h σ' H' ph' s (k.trans k2)
  | bk ρ' w' => exact fun σ' H' ph' s k2 => h σ' H' ph' s (k.trans k2)
  | ct ρ' w' => exact fun σ' H' ph' s k2 => h σ' H' ph' s (k.trans k2)
  | rt d w' => exact h
  | ex c ns xs ρ' w' => exact fun σ' H' ph' dd vs s k2 => h σ' H' ph' dd vs s (k.trans k2)
  | bad => exact h
theorem New2.keep {B : Hp} {ds : List FL.D} {v : V} (h : New2 B H ds v) (r : Rep K cm H N ph (.lst ds) v) (k : ∀ p o, ¬ N p → H p = some o → H' p = some o) : New2 B H' ds v := by
  obtain ⟨p, vs, rfl, h1, h2, h3⟩ := h
  obtain ⟨a, us, e, ⟨n, t⟩, _⟩ := lst_of r
  cases e
  exact ⟨p, vs, rfl, h1, k p _ n h2, h3⟩
theorem StS.newsK (h : StS K cm xa q ρ ph w σ H) (k : ∀ p o, ¬ NN q ρ σ ph p → H p = some o → H' p = some o) (i : Nat) (ds : List FL.D) (v : V) (e1 : ρ[i]? = some (.nest ds)) (e2 : σ[i]? = some (some v)) : New2 q.B H' ds v := by
  obtain ⟨v', e3, r⟩ := h.env.nestd e1
  rw [e2] at e3; cases e3
  exact (h.news i ds v e1 e2).keep r k
theorem StS.ext (x : Ext ph H H') (s : PhS H ph ph') (hk : HandOk K cm H' (OwnS q.O0 ρ σ) ph' w') (h : StS K cm xa q ρ ph w σ H) : StS K cm xa q ρ ph' w' σ H' :=
  ⟨h.env.ext x s, hk, h.base.trans h.phs x, PhS.trans h.base h.phs s, h.o0, h.inj, h.fresh, h.newsK fun p o n e => x p o (fun z => n (.inr z)) e⟩
theorem onE_run {α β : Type} {rel : Hp → Option Addr → α → β → Prop} {m : M α} {k : α → Wd → SR} (h : StS K cm xa q ρ ph w σ H) (hp : Post2 K cm xa q Wx D H (NN q ρ σ ph) ph (onE m ρ w k)) :
    Run K cm xa (OwnS q.O0 ρ σ) rel Wx ρ σ ph H w m (fun b H1 => ∃ a ph1 w1, rel H1 ph1 a b ∧ StS K cm xa q ρ ph1 w1 σ H1 ∧ Kp H (NN q ρ σ ph) ph H1 (NN q ρ σ ph1) ph1 ∧ Post2 K cm xa q Wx D H1 (NN q ρ σ ph1) ph1 (k a w1)) := by
  refine ⟨h.env, h.hand, ?_⟩
  unfold onE at hp
  cases e : m w with
  | ok a w1 =>
    rw [e] at hp
    intro b H1 ph1 x s hk r
    have kk : Kp H (NN q ρ σ ph) ph H1 (NN q ρ σ ph1) ph1 := ⟨Ext.keep x s, s.m⟩
    exact ⟨a, ph1, w1, r, h.ext x s hk, kk, hp.keep kk⟩
  | ex c ns xs w1 =>
    rw [e] at hp
    intro dd H1 ph1 vs x s hk hd l r
    exact hp σ H1 ph1 dd vs (h.ext x s hk) ⟨Ext.keep x s, s.m⟩ hd l r
  | bad => rw [e] at hp; exact hp
theorem get_set_or {α : Type} {l : List α} {i j : Nat} {x y : α} (h : (l.set i x)[j]? = some y) : (i = j ∧ y = x) ∨ (i ≠ j ∧ l[j]? = some y) := by
  by_cases e : i = j
  · subst e
    by_cases hi : i < l.length
    · rw [List.getElem?_set_self hi] at h; cases h; exact .inl ⟨rfl, rfl⟩
    · rw [List.getElem?_eq_none (by simpa using hi)] at h; cases h
  · rw [List.getElem?_set_ne e] at h; exact .inr ⟨e, h⟩
theorem own_set {O0 : NS} {i : Nat} {s : Slot} {x : Option V} (hs : ∀ xs, s ≠ .own xs) {a : Addr} (h : OwnS O0 (ρ.set i s) (σ.set i x) a) : OwnS O0 ρ σ a := by
  rcases h with h | ⟨j, xs, h1, h2⟩
  · exact .inl h
  · rcases get_set_or h1 with ⟨e, e2⟩ | ⟨e, e2⟩
    · exact absurd e2.symm (hs xs)
    · rw [List.getElem?_set_ne e] at h2
      exact .inr ⟨j, xs, e2, h2⟩
theorem OO.mono {O O' : NS} (h : ∀ a, O a → O' a) : ∀ a, OO O ph a → OO O' ph a := fun a x => x.elim (fun y => .inl (h a y)) .inr
theorem Keep.less (h : ∀ a, N' a → N a) : Keep H N H N' := ⟨fun _ _ _ e => e, fun b _ _ n => h b n⟩
theorem OTr.less {O O' : NS} (h : ∀ a, O' a → O a) (t : OTr H O ph) : OTr H O' ph := fun a o => t a (h a o)
theorem HandOk.less {O O' : NS} (h : ∀ a, O' a → O a) (t : HandOk K cm H O ph w) : HandOk K cm H O' ph w := t.keep (Keep.less (OO.mono h)) fun _ _ _ e => e
theorem StS.setvn {i : Nat} {s : Slot} {x : Option V} (hs : ∀ xs, s ≠ .own xs) (hn : ∀ ds v, s = .nest ds → x = some v → New2 q.B H ds v) (r : SlotR K cm xa (OwnS q.O0 ρ σ) H ph s x) (h : StS K cm xa q ρ ph w σ H) : StS K cm xa q (ρ.set i s) ph w (σ.set i x) H := by
  have lo : ∀ a, OwnS q.O0 (ρ.set i s) (σ.set i x) a → OwnS q.O0 ρ σ a := fun a => own_set hs
  have kk : Keep H (NN q ρ σ ph) H (NN q (ρ.set i s) (σ.set i x) ph) := Keep.less (OO.mono lo)
  refine ⟨⟨by simp [h.env.len], fun j sl v e1 e2 => ?_, h.env.tr.less lo⟩, h.hand.less lo, h.base, h.phs, h.o0, ?_, ?_, ?_⟩
  · rcases get_set_or e1 with ⟨e, e3⟩ | ⟨e, e3⟩
    · subst e
      subst e3
      have hj : i < σ.length := by
        have := (List.getElem?_eq_some_iff.mp e2).1
        simpa using this
      rw [List.getElem?_set_self hj] at e2
      cases e2
      exact r.keep kk (fun _ e => e) fun ds p e => absurd e (hs ds)
    · rw [List.getElem?_set_ne e] at e2
      refine (h.env.at_ j sl v e3 e2).keep kk (fun _ e => e) fun ds p hsl hv _ => ⟨.inr ⟨j, ds, ?_, ?_⟩, fun _ e => e⟩
      · rw [List.getElem?_set_ne e, e3, hsl]
      · rw [List.getElem?_set_ne e, e2, hv]
  · intro j k p xs ys h1 h2 h3 h4
    rcases get_set_or h1 with ⟨_, e3⟩ | ⟨n1, e3⟩
    · exact absurd e3.symm (hs xs)
    · rcases get_set_or h2 with ⟨_, e4⟩ | ⟨n2, e4⟩
      · exact absurd e4.symm (hs ys)
      · rw [List.getElem?_set_ne n1] at h3
        rw [List.getElem?_set_ne n2] at h4
        exact h.inj j k p xs ys e3 e4 h3 h4
  · intro j p xs h1 h3
    rcases get_set_or h1 with ⟨_, e3⟩ | ⟨n1, e3⟩
    · exact absurd e3.symm (hs xs)
    · rw [List.getElem?_set_ne n1] at h3
      exact h.fresh j p xs e3 h3
  · intro j ds v h1 h3
    rcases get_set_or h1 with ⟨n1, e3⟩ | ⟨n1, e3⟩
    · subst n1
      have hj : i < σ.length := by
        have := (List.getElem?_eq_some_iff.mp h3).1
        simpa using this
      rw [List.getElem?_set_self hj] at h3
      exact hn ds v e3.symm (Option.some.inj h3)
    · rw [List.getElem?_set_ne n1] at h3
      exact h.news j ds v e3 h3
theorem StS.setv {i : Nat} {s : Slot} {x : Option V} (hs : ∀ xs, s ≠ .own xs) (r : SlotR K cm xa (OwnS q.O0 ρ σ) H ph s x) (h : StS K cm xa q ρ ph w σ H) (hn : ∀ ds, s ≠ .nest ds := by intro _ z; cases z) : StS K cm xa q (ρ.set i s) ph w (σ.set i x) H := h.setvn hs (fun ds _ e => absurd e (hn ds)) r
theorem StS.setd {i : Nat} {d : FL.D} {v : V} (r : Rep K cm H (NN q ρ σ ph) ph d v) (h : StS K cm xa q ρ ph w σ H) : StS K cm xa q (ρ.set i (.val d)) ph w (σ.set i (some v)) H := h.setv (fun _ e => by cases e) ⟨v, rfl, r⟩
theorem keep_set {i : Nat} {s : Slot} {x : Option V} (hs : ∀ xs, s ≠ .own xs) : Keep H (NN q ρ σ ph) H (NN q (ρ.set i s) (σ.set i x) ph) := Keep.less (OO.mono fun _ => own_set hs)
theorem StS.seto {i : Nat} {ds : List FL.D} {vs : List V} {p : Addr} (hi : i < ρ.length) (hp : H p = none) (r : RepL K cm H (NN q ρ σ ph) ph ds vs) (h : StS K cm xa q ρ ph w σ H) :
    StS K cm xa q (ρ.set i (.own ds)) ph w (σ.set i (some (.ref p))) (upd H p (.lst vs)) ∧ Keep H (NN q ρ σ ph) (upd H p (.lst vs)) (NN q (ρ.set i (.own ds)) (σ.set i (some (.ref p))) ph) := by
  have hiσ : i < σ.length := by rw [h.env.len]; exact hi
  have lo : ∀ a, OwnS q.O0 (ρ.set i (.own ds)) (σ.set i (some (.ref p))) a → a = p ∨ OwnS q.O0 ρ σ a := fun a x => by
    rcases x with x | ⟨j, xs, h1, h2⟩
    · exact .inr (.inl x)
    · rcases get_set_or h1 with ⟨e, _⟩ | ⟨e, e2⟩
      · subst e
        rw [List.getElem?_set_self hiσ] at h2
        cases h2; exact .inl rfl
      · rw [List.getElem?_set_ne e] at h2
        exact .inr (.inr ⟨j, xs, e2, h2⟩)
  have np : ∀ a, OwnS q.O0 ρ σ a → a ≠ p := fun a o e => by
    obtain ⟨_, vs, z, _⟩ := h.env.tr a o
    rw [e, hp] at z; cases z
  have nph : ph ≠ some p := fun e => by
    obtain ⟨vs, z⟩ := h.hand.tr e
    rw [hp] at z; cases z
  have kk : Keep H (NN q ρ σ ph) (upd H p (.lst vs)) (NN q (ρ.set i (.own ds)) (σ.set i (some (.ref p))) ph) := by
    refine ⟨fun b o _ e => by rw [upd_ne (ne_of_none e hp)]; exact e, fun b o e x => ?_⟩
    rcases x with x | x
    · rcases lo b x with z | z
      · rw [z, hp] at e; cases e
      · exact .inl z
    · exact .inr x
  have Bp : q.B p = none := by
    cases e : q.B p with
    | none => rfl
    | some o =>
      by_cases z : q.ph0 = some p
      · rcases h.phs with y | ⟨y, _⟩
        · exact absurd (y.trans z) nph
        · rw [y] at z; cases z
      · rw [h.base p o z e] at hp; cases hp
  refine ⟨⟨⟨by simp [h.env.len], fun j sl v e1 e2 => ?_, fun a o => ?_⟩, ?_, fun b o n e => ?_, h.phs, h.o0, ?_, ?_, ?_⟩, kk⟩
  · rcases get_set_or e1 with ⟨e, e3⟩ | ⟨e, e3⟩
    · subst e
      subst e3
      rw [List.getElem?_set_self hiσ] at e2
      cases e2
      exact ⟨p, vs, rfl, .inr ⟨i, ds, List.getElem?_set_self hi, List.getElem?_set_self hiσ⟩, upd_same, r.keep kk (fun _ e => e) ds vs⟩
    · rw [List.getElem?_set_ne e] at e2
      refine (h.env.at_ j sl v e3 e2).keep kk (fun _ e => e) fun ds' p' hsl hv o => ⟨.inr ⟨j, ds', ?_, ?_⟩, fun u z => by rw [upd_ne (np p' o)]; exact z⟩
      · rw [List.getElem?_set_ne e, e3, hsl]
      · rw [List.getElem?_set_ne e, e2, hv]
  · rcases lo a o with z | z
    · subst z; exact ⟨nph, _, upd_same, .lst vs⟩
    · obtain ⟨y, ws, e, k⟩ := h.env.tr a z
      exact ⟨y, ws, by rw [upd_ne (np a z)]; exact e, k⟩
  · exact h.hand.keep kk fun p' e u z => by rw [upd_ne (ne_of_none z hp)]; exact z
  · rw [upd_ne (ne_of_none (h.base b o n e) hp)]; exact h.base b o n e
  · intro j k p' xs ys h1 h2 h3 h4
    rcases get_set_or h1 with ⟨a1, _⟩ | ⟨n1, e3⟩
    · rcases get_set_or h2 with ⟨a2, _⟩ | ⟨n2, e4⟩
      · exact a1.symm.trans a2
      · subst a1
        rw [List.getElem?_set_self hiσ] at h3
        rw [List.getElem?_set_ne n2] at h4
        cases h3
        exact absurd rfl (np p (.inr ⟨k, ys, e4, h4⟩))
    · rcases get_set_or h2 with ⟨a2, _⟩ | ⟨n2, e4⟩
      · subst a2
        rw [List.getElem?_set_self hiσ] at h4
        rw [List.getElem?_set_ne n1] at h3
        cases h4
        exact absurd rfl (np p (.inr ⟨j, xs, e3, h3⟩))
      · rw [List.getElem?_set_ne n1] at h3
        rw [List.getElem?_set_ne n2] at h4
        exact h.inj j k p' xs ys e3 e4 h3 h4
  · intro j p' xs h1 h3
    rcases get_set_or h1 with ⟨a1, _⟩ | ⟨n1, e3⟩
    · subst a1
      rw [List.getElem?_set_self hiσ] at h3
      cases h3; exact Bp
    · rw [List.getElem?_set_ne n1] at h3
      exact h.fresh j p' xs e3 h3
  · intro j es v h1 h3
    rcases get_set_or h1 with ⟨_, e3⟩ | ⟨n1, e3⟩
    · cases e3
    · rw [List.getElem?_set_ne n1] at h3
      exact h.newsK (fun b o _ e => by rw [upd_ne (ne_of_none e hp)]; exact e) j es v e3 h3
theorem StS.chg {i : Nat} {ds es : List FL.D} {ws : List V} (e0 : ρ[i]? = some (.own ds)) {p : Addr} (e1 : σ[i]? = some (some (.ref p))) (r : RepL K cm H (NN q ρ σ ph) ph es ws) (h : StS K cm xa q ρ ph w σ H) :
    StS K cm xa q (ρ.set i (.own es)) ph w σ (upd H p (.lst ws)) ∧ Keep H (NN q ρ σ ph) (upd H p (.lst ws)) (NN q (ρ.set i (.own es)) σ ph) := by
  have hi : i < ρ.length := (List.getElem?_eq_some_iff.mp e0).1
  have op : OwnS q.O0 ρ σ p := .inr ⟨i, ds, e0, e1⟩
  have so : ∀ a, OwnS q.O0 (ρ.set i (.own es)) σ a → OwnS q.O0 ρ σ a := fun a x => by
    rcases x with x | ⟨j, xs, h1, h2⟩
    · exact .inl x
    · rcases get_set_or h1 with ⟨e, _⟩ | ⟨e, e2⟩
      · subst e; exact .inr ⟨i, ds, e0, h2⟩
      · exact .inr ⟨j, xs, e2, h2⟩
  have os : ∀ a, OwnS q.O0 ρ σ a → OwnS q.O0 (ρ.set i (.own es)) σ a := fun a x => by
    rcases x with x | ⟨j, xs, h1, h2⟩
    · exact .inl x
    · by_cases e : i = j
      · subst e; exact .inr ⟨i, es, List.getElem?_set_self hi, h2⟩
      · exact .inr ⟨j, xs, by rw [List.getElem?_set_ne e]; exact h1, h2⟩
  have nph : ph ≠ some p := (h.env.tr p op).1
  have Bp : q.B p = none := h.fresh i p ds e0 e1
  have kk : Keep H (NN q ρ σ ph) (upd H p (.lst ws)) (NN q (ρ.set i (.own es)) σ ph) :=
    ⟨fun b o n e => by rw [upd_ne (fun (z : b = p) => n (.inl (by rw [z]; exact op)))]; exact e, fun b o e x => x.elim (fun y => .inl (so b y)) .inr⟩
  refine ⟨⟨⟨by simp [h.env.len], fun j sl v e2 e3 => ?_, fun a o => ?_⟩, ?_, fun b o n e => ?_, h.phs, h.o0, ?_, ?_, ?_⟩, kk⟩
  · rcases get_set_or e2 with ⟨e, e4⟩ | ⟨e, e4⟩
    · subst e
      subst e4
      rw [e1] at e3; cases e3
      exact ⟨p, ws, rfl, os p op, upd_same, r.keep kk (fun _ e => e) es ws⟩
    · refine (h.env.at_ j sl v e4 e3).keep kk (fun _ e => e) fun ds' p' hsl hv o => ⟨os p' o, fun u z => ?_⟩
      rw [upd_ne (fun z' => ?_)]
      · exact z
      · subst z'
        exact e (h.inj i j p' ds ds' e0 (by rw [e4, hsl]) e1 (by rw [e3, hv]))
  · obtain ⟨y, us, e, k⟩ := h.env.tr a (so a o)
    refine ⟨y, ?_⟩
    by_cases z : a = p
    · subst z; exact ⟨_, upd_same, .lst ws⟩
    · exact ⟨us, by rw [upd_ne z]; exact e, k⟩
  · exact h.hand.keep kk fun p' e u z => by rw [upd_ne (fun z' => nph (by rw [← z']; exact e))]; exact z
  · rw [upd_ne (fun z => by rw [z, Bp] at e; cases e)]; exact h.base b o n e
  · intro j k p' xs ys h1 h2 h3 h4
    have gj : ∃ xs', ρ[j]? = some (.own xs') := by
      rcases get_set_or h1 with ⟨a, _⟩ | ⟨_, a⟩
      · subst a; exact ⟨ds, e0⟩
      · exact ⟨xs, a⟩
    have gk : ∃ xs', ρ[k]? = some (.own xs') := by
      rcases get_set_or h2 with ⟨a, _⟩ | ⟨_, a⟩
      · subst a; exact ⟨ds, e0⟩
      · exact ⟨ys, a⟩
    obtain ⟨x1, g1⟩ := gj
    obtain ⟨x2, g2⟩ := gk
    exact h.inj j k p' x1 x2 g1 g2 h3 h4
  · intro j p' xs h1 h3
    rcases get_set_or h1 with ⟨a, _⟩ | ⟨_, a⟩
    · subst a; exact h.fresh i p' ds e0 h3
    · exact h.fresh j p' xs a h3
  · intro j es' v h1 h3
    rcases get_set_or h1 with ⟨_, a⟩ | ⟨_, a⟩
    · cases a
    · exact h.newsK (fun b o n e => by rw [upd_ne (fun (z : b = p) => n (.inl (by rw [z]; exact op)))]; exact e) j es' v a h3
end
section
variable {X : Cx} {c : Cfg} {q : Sq} {pos : Pos} {e : Expr} {fe : EF} {st : Stmt} {sts : List Stmt} {s t : SF}
theorem pssx_nil : PSSX X c q [] sNext := PSs.to L2.pss_nil fun D σ H ⟨ρ, ph, w, h, hp⟩ => hp σ H ph h .refl
theorem seq_to : ∀ D σ H, tS X.K c.cm c.xa q c.Wx (sSeq s t) D σ H → L2.tSeq (tS X.K c.cm c.xa q c.Wx s) (tS X.K c.cm c.xa q c.Wx t) D σ H := fun D σ H ⟨ρ, ph, w, h, hp⟩ => by
  refine ⟨ρ, ph, w, h, ?_⟩
  unfold sSeq at hp
  cases er : s ρ w with
  | nx ρ' w' =>
    rw [er] at hp
    exact fun σ' H' ph' h2 k => ⟨ρ', ph', w', h2, hp.keep k⟩
  | rt d w' => rw [er] at hp; exact hp
  | bk ρ' w' => rw [er] at hp; exact hp
  | ct ρ' w' => rw [er] at hp; exact hp
  | ex c ns xs ρ' w' => rw [er] at hp; exact hp
  | bad => rw [er] at hp; exact hp
theorem pssx_cons (h1 : PSX X c q st s) (h2 : PSSX X c q sts t) : PSSX X c q (st :: sts) (sSeq s t) := PSs.to (L2.pss_cons h1 h2) seq_to
theorem pssx_one (h1 : PSX X c q st s) : PSSX X c q [st] s := L2.pss_one h1
theorem pssx_frz (i : Nat) (h : PSSX X c q sts t) : PSSX X c q sts (sSeq (sFrz i) t) := PSs.to h fun D σ H ⟨ρ, ph, w, h, hp⟩ => by
  unfold sSeq sFrz at hp
  cases e : ρ[i]? with
  | none => rw [e] at hp; exact (show False from hp).elim
  | some sl =>
    rw [e] at hp
    cases sl with
    | own xs =>
      obtain ⟨p, vs, e1, o, hv, r⟩ := h.env.ownd e
      have hi : i < ρ.length := (List.getElem?_eq_some_iff.mp e).1
      have hiσ : i < σ.length := by rw [h.env.len]; exact hi
      have es : σ.set i (some (.ref p)) = σ := by
        apply List.ext_getElem?
        intro j
        by_cases hj : i = j
        · subst hj; rw [List.getElem?_set_self hiσ, e1]
        · rw [List.getElem?_set_ne hj]
      have kk : Keep H (NN q ρ σ ph) H (NN q (ρ.set i (.val (.lst xs))) (σ.set i (some (.ref p))) ph) := keep_set fun _ z => by cases z
      -- p is not of the new state's own
      have np : ¬ NN q (ρ.set i (.val (.lst xs))) (σ.set i (some (.ref p))) ph p := fun z => by
        rcases z with (z | ⟨j, ys, h1, h2⟩) | z
        · obtain ⟨_, us, z, _⟩ := h.o0 p z
          rw [h.fresh i p xs e e1] at z; cases z
        · rcases get_set_or h1 with ⟨_, a⟩ | ⟨n, a⟩
          · cases a
          · rw [es] at h2
            exact n (h.inj i j p xs ys e a e1 h2)
        · exact (h.env.tr p o).1 z
      have h2 : StS X.K c.cm c.xa q (ρ.set i .none) ph w (σ.set i (some (.ref p))) H := h.setv (s := .none) (fun _ z => by cases z) trivial
      have lo : ∀ a, NN q (ρ.set i .none) (σ.set i (some (.ref p))) ph a → NN q (ρ.set i (.val (.lst xs))) (σ.set i (some (.ref p))) ph a := fun a z => by
        rcases z with (z | ⟨j, ys, h1, h2⟩) | z
        · exact .inl (.inl z)
        · rcases get_set_or h1 with ⟨_, a⟩ | ⟨n, a⟩
          · cases a
          · exact .inl (.inr ⟨j, ys, by rw [List.getElem?_set_ne n]; exact a, h2⟩)
        · exact .inr z
      have lo2 : ∀ a, NN q (ρ.set i (.val (.lst xs))) (σ.set i (some (.ref p))) ph a → NN q (ρ.set i .none) (σ.set i (some (.ref p))) ph a := fun a z => by
        rcases z with (z | ⟨j, ys, h1, h2⟩) | z
        · exact .inl (.inl z)
        · rcases get_set_or h1 with ⟨_, a⟩ | ⟨n, a⟩
          · cases a
          · exact .inl (.inr ⟨j, ys, by rw [List.getElem?_set_ne n]; exact a, h2⟩)
        · exact .inr z
      have h3 := h2.setd (i := i) (d := .lst xs) (v := .ref p) (by
        simp only [Rep]
        exact ⟨p, vs, rfl, ⟨fun z => np (lo p z), hv⟩, r.keep (kk.trans (Keep.less lo)) (fun _ e => e) xs vs⟩)
      rw [List.set_set, List.set_set, es] at h3
      rw [es] at kk
      exact ⟨_, ph, w, h3, hp.keep kk.kp⟩
    | _ => exact (show False from hp).elim
theorem psx_expr (he : PX X c e fe) (hs : swapsWith e none pos.line X.env = pure false := by rfl) : PSX X c q (.Expr e pos) (sExpr fe) :=
  PS.to (L2.ps_expr he hs) fun D σ H ⟨ρ, ph, w, h, hp⟩ => ⟨_, ρ, ph, w, (onE_run h hp).imp fun v H1 ⟨d, ph1, w1, r, h1, k, hp1⟩ => hp1 σ H1 ph1 h1 .refl⟩
theorem psx_set {i : Nat} {x : Str} {pos' : Pos} (hN : X.N.Nodup) (hi : X.N[i]? = some x) (hx : L2.Loc X.env.scope x) (he : PX X c e fe) (hs : swapsWith e (some (.Name x pos')) pos.line X.env = pure false := by rfl) (hf : X.fn x = true ∨ X.env.scope.names.lookup x = some .local := by first | exact .inl rfl | exact .inr rfl | assumption) :
    PSX X c q (.Assign [.Name x pos'] e pos) (sSet i fe) :=
  PS.to (L2.ps_set hN hi hx he hs hf) fun D σ H ⟨ρ, ph, w, h, hp⟩ => ⟨_, ρ, ph, w, (onE_run h hp).imp fun v H1 ⟨d, ph1, w1, r, h1, k, hp1⟩ => hp1 _ H1 ph1 (h1.setd r) (keep_set fun _ z => by cases z).kp⟩
theorem psx_own {i : Nat} {x : Str} {pos' : Pos} {f : NF} (hN : X.N.Nodup) (hi : X.N[i]? = some x) (hx : L2.Loc X.env.scope x) (he : PNX X c e f) (hs : swapsWith e (some (.Name x pos')) pos.line X.env = pure false := by rfl) (hf : X.fn x = true ∨ X.env.scope.names.lookup x = some .local := by first | exact .inl rfl | exact .inr rfl | assumption) :
    PSX X c q (.Assign [.Name x pos'] e pos) (sOwn i f) :=
  PS.to (L2.ps_set hN hi hx he hs hf) fun D σ H ⟨ρ, ph, w, h, hp⟩ => ⟨_, ρ, ph, w, (onE_run h hp).imp fun vs H1 ⟨ds, ph1, w1, r, h1, k, hp1⟩ p hpn => by
    by_cases hl : i < ρ.length
    · obtain ⟨h2, k2⟩ := h1.seto hl hpn r
      exact hp1 _ _ ph1 h2 k2.kp
    · have e1 : ρ.set i (.own ds) = ρ := List.set_eq_of_length_le (by omega)
      have e2 : σ.set i (some (.ref p)) = σ := List.set_eq_of_length_le (by rw [h.env.len]; omega)
      show D.nx (σ.set i (some (.ref p))) _
      have hp1' : Post2 X.K c.cm c.xa q c.Wx D H1 (NN q ρ σ ph1) ph1 (.nx ρ w1) := by
        have z := hp1
        show Post2 X.K c.cm c.xa q c.Wx D H1 (NN q ρ σ ph1) ph1 (.nx ρ w1)
        have e3 : SR.nx (ρ.set i (.own ds)) w1 = SR.nx ρ w1 := by rw [e1]
        rw [← e3]; exact z
      rw [e2]
      exact hp1' σ _ ph1 (h1.ext (ext_new hpn) .refl (h1.hand.new hpn)) (Ext.keep (ext_new hpn) .refl).kp⟩
theorem psx_ret (he : PX X c e fe) : PSX X c q (.Return (some e) pos) (sRet fe) :=
  PS.to (L2.ps_ret he) fun D σ H ⟨ρ, ph, w, h, hp⟩ => ⟨_, ρ, ph, w, (onE_run h hp).imp fun v H1 ⟨d, ph1, w1, r, h1, k, hp1⟩ =>
    hp1 v H1 ph1 h1.base h1.phs (h1.hand.less fun _ z => .inl z) (r.keep (Keep.less (OO.mono fun _ z => .inl z)) (fun _ e => e) d v)⟩
theorem psx_retOwn (i : Nat) {x : Str} {p0 : Pos} (hN : X.N[i]? = some x := by rfl) (hv : L2.Vis X.env.scope x := by first | exact Or.inl rfl | exact Or.inr (Or.inl rfl) | exact Or.inr (Or.inr rfl)) (hd : (x == ("__debug__" : Str)) = false := by decide)
    (hcd : (x == ("__classdict__" : Str)) = false := by decide) : PSX X c q (.Return (some (.Name x p0)) pos) (sRetOwn i) :=
  PS.to (L2.ps_ret (L2.pe_var hN hv hd hcd)) fun D σ H ⟨ρ, ph, w, h, hp⟩ => by
    unfold sRetOwn at hp
    cases e : ρ[i]? with
    | none => rw [e] at hp; exact (show False from hp).elim
    | some sl =>
      rw [e] at hp
      cases sl with
      | own xs =>
        obtain ⟨p, vs, e1, o, hv, r⟩ := h.env.ownd e
        refine ⟨.ref p, e1, hp (.ref p) H ph h.base h.phs (h.hand.less fun _ z => .inl z) ?_⟩
        simp only [Rep]
        refine ⟨p, vs, rfl, ⟨fun z => ?_, hv⟩, r.keep (Keep.less (OO.mono fun _ z => .inl z)) (fun _ e => e) xs vs⟩
        rcases z with z | z
        · obtain ⟨_, us, z, _⟩ := h.o0 p z
          rw [h.fresh i p xs e e1] at z; cases z
        · exact (h.env.tr p o).1 z
      | _ => exact (show False from hp).elim
theorem psx_if {ta : TF} {b1 b2 : List Stmt} {e1 : Expr} (ht : PTX X c e1 ta) (ha : PSSX X c q b1 s) (hb : PSSX X c q b2 t) : PSX X c q (.If e1 b1 b2 pos) (sIf ta s t) :=
  PS.to (L2.ps_if ht ha hb) fun D σ H ⟨ρ, ph, w, h, hp⟩ => ⟨_, ρ, ph, w, (onE_run (rel := relB) h hp).imp fun b H1 ⟨d, ph1, w1, r, h1, k, hp1⟩ => by
    cases r
    cases b with
    | true => exact ⟨ρ, ph1, w1, h1, hp1⟩
    | false => exact ⟨ρ, ph1, w1, h1, hp1⟩⟩
theorem psx_brk : PSX X c q (.Break pos) sBrk := PS.to L2.ps_break fun D σ H ⟨ρ, ph, w, h, hp⟩ => hp σ H ph h .refl
theorem psx_cnt : PSX X c q (.Continue pos) sCnt := PS.to L2.ps_continue fun D σ H ⟨ρ, ph, w, h, hp⟩ => hp σ H ph h .refl
theorem psx_app (i : Nat) {x : Str} {p0 p1 p2 : Pos} (he : PX X c e fe) (hN : X.N[i]? = some x := by rfl) (hv : L2.Vis X.env.scope x := by first | exact Or.inl rfl | exact Or.inr (Or.inl rfl) | exact Or.inr (Or.inr rfl)) (hd : (x == ("__debug__" : Str)) = false := by decide)
    (hcd : (x == ("__classdict__" : Str)) = false := by decide) (hst : starEach (e :: []) X.env = (false, eval e X.env) :: starEach [] X.env := by rfl) (hs : swapsWith (.Call (.Attribute (.Name x p0) "append" p1) [e] [] p2) none pos.line X.env = pure false := by rfl)
    (hpl : (backTo p2 (starEach [] X.env)).any (·.1) = false := by rfl)
    (hc : PE X (.Call (.Attribute (.Name x p0) "append" p1) [e] [] p2) (L2.tBM X.K "list" L2.rAppend (L2.tVar i) (L2.tCons (tX X.K c.cm c.xa c.Wx fe) L2.tNil))) : PSX X c q (.Expr (.Call (.Attribute (.Name x p0) "append" p1) [e] [] p2) pos) (sApp i fe) :=
  PS.to (L2.ps_expr hc hs) fun D σ H ⟨ρ, ph, w, h, hp⟩ => by
    unfold sApp at hp
    cases e0 : ρ[i]? with
    | none => rw [e0] at hp; exact (show False from hp).elim
    | some sl =>
      rw [e0] at hp
      cases sl with
      | own xs =>
        obtain ⟨p, vs, e1, o, hv, r⟩ := h.env.ownd e0
        refine ⟨.ref p, e1, .inl ⟨rfl, vs, .inl (.inl hv)⟩, _, ρ, ph, w, (onE_run h hp).imp fun v H1 ⟨d, ph1, w1, rd, h1, k, hp1⟩ => ?_⟩
        obtain ⟨p', vs', e1', o', hv', r'⟩ := h1.env.ownd e0
        rw [e1] at e1'; cases e1'
        by_cases hl : xs.length < line
        · simp only [if_pos hl] at hp1
          obtain ⟨h2, k2⟩ := h1.chg e0 e1 (r'.append (RepL.one rd))
          exact ⟨p, vs', v, rfl, rfl, hv', by rw [sizeLine_eq, ← r'.length]; exact hl, hp1 σ _ ph1 h2 k2.kp⟩
        · simp only [if_neg hl] at hp1
          exact (show False from hp1).elim
      | _ => exact (show False from hp).elim
end
end FL
namespace FL
open PySem
open L2 (V Hp HO Cx Inv VK XK TE TT TA TS TI TG PE PT PA PS PSs PI PG Ends WX RelV Vals Rd upd upd_same upd_ne ne_of_none EP TP AP OpR R2 CallR FnOk Room Binds It Walk)
abbrev Put := Nat × D × V
def putE (ts : List Put) (ρ : Env) : Env := ts.foldl (fun ρ t => ρ.set t.1 (.val t.2.1)) ρ
def putS (ts : List Put) (σ : St) : St := ts.foldl (fun σ t => σ.set t.1 (some t.2.2)) σ
def TGX (K : PySem.W.Frag) (cm : Nat → Addr) (g : GF) (tg : TG) (is : List Nat) : Prop := ∀ {H N ph d v ρ ρ'}, Rep K cm H N ph d v → g d ρ = some ρ' →
  ∃ ts : List Put, ρ' = putE ts ρ ∧ (∀ t ∈ ts, t.1 ∈ is ∧ Rep K cm H N ph t.2.1 t.2.2) ∧ ∀ (σ : St) (Q : St → Hp → Prop), Q (putS ts σ) H → tg v σ H Q
section
variable {K : PySem.W.Frag} {cm : Nat → Addr} {xa : Option (Addr × Nat × Addr)} {O O' : NS} {X : Cx} {c : Cfg} {q : Sq} {H H' H1 : Hp} {N : NS} {ph ph' : Option Addr} {ρ ρ' : Env} {σ : St} {w w' : Wd} {pos : Pos}
theorem tgx_n (i : Nat) : TGX K cm (gN i) (L2.gName i) [i] := fun {H N ph d v ρ ρ'} r e => by
  cases e
  exact ⟨[(i, d, v)], rfl, fun t ht => by simp at ht; subst ht; exact ⟨by simp, r⟩, fun σ Q h => h⟩
def gNames : List Nat → L2.TGs
  | [] => L2.gNil
  | i :: is => L2.gCons (L2.gName i) (gNames is)
theorem gAll_put : ∀ (is : List Nat) (ds : List D) (vs : List V) (ρ ρ' : Env), RepL K cm H N ph ds vs → gAll is ds ρ = some ρ' →
    vs.length = is.length ∧ ∃ ts : List Put, ρ' = putE ts ρ ∧ (∀ t ∈ ts, t.1 ∈ is ∧ Rep K cm H N ph t.2.1 t.2.2) ∧ ∀ (σ : St) (Q : St → Hp → Prop), Q (putS ts σ) H → gNames is vs σ H Q
  | [], [], vs, ρ, ρ', r, e => by
    cases e; cases r.unnil
    exact ⟨rfl, [], rfl, fun t ht => by simp at ht, fun σ Q h => ⟨rfl, h⟩⟩
  | i :: is, d :: ds, vs, ρ, ρ', r, e => by
    obtain ⟨v, vs', rfl, r1, r2⟩ := r.uncons
    obtain ⟨l, ts, e1, ht, hq⟩ := gAll_put is ds vs' _ ρ' r2 e
    refine ⟨by simp [l], (i, d, v) :: ts, e1, fun t h => ?_, fun σ Q h => ⟨v, vs', rfl, hq (σ.set i (some v)) Q h⟩⟩
    rcases List.mem_cons.mp h with rfl | h
    · exact ⟨by simp, r1⟩
    · exact ⟨List.mem_cons_of_mem _ (ht t h).1, (ht t h).2⟩
  | [], _ :: _, _, _, _, _, e => by cases e
  | _ :: _, [], _, _, _, _, e => by cases e
theorem tgx_t (is : List Nat) : TGX K cm (gT is) (L2.gTup K is.length (gNames is)) is := fun {H N ph d v ρ ρ'} r e => by
  cases d with
  | tup ds =>
    obtain ⟨a, vs, rfl, t, rl⟩ := tup_of r
    obtain ⟨l, ts, e1, ht, hq⟩ := gAll_put is ds vs ρ ρ' rl e
    exact ⟨ts, e1, ht, fun σ Q h => ⟨a, vs, rfl, t.seq, l, hq σ Q h⟩⟩
  | _ => cases e
theorem EnvE.setd {i : Nat} {d : D} {v : V} (r : Rep K cm H (OO O ph) ph d v) (h : EnvE K cm xa O H ph ρ σ) : EnvE K cm xa O H ph (ρ.set i (.val d)) (σ.set i (some v)) := by
  refine ⟨by simp [h.len], fun j s x e1 e2 => ?_, h.tr⟩
  rcases get_set_or e1 with ⟨e, e3⟩ | ⟨e, e3⟩
  · subst e e3
    rcases get_set_or e2 with ⟨_, e4⟩ | ⟨n, _⟩
    · subst e4; exact ⟨v, rfl, r⟩
    · exact absurd rfl n
  · rw [List.getElem?_set_ne e] at e2
    exact h.at_ j s x e3 e2
theorem EnvE.puts : ∀ (ts : List Put) {ρ : Env} {σ : St}, (∀ t ∈ ts, Rep K cm H (OO O ph) ph t.2.1 t.2.2) → EnvE K cm xa O H ph ρ σ → EnvE K cm xa O H ph (putE ts ρ) (putS ts σ)
  | [], _, _, _, h => h
  | t :: ts, ρ, σ, r, h => EnvE.puts ts (fun u hu => r u (List.mem_cons_of_mem _ hu)) (h.setd (r t List.mem_cons_self))
theorem EnvE.setn {i : Nat} (h : EnvE K cm xa O H ph ρ σ) : EnvE K cm xa O H ph (ρ.set i .none) (σ.set i none) := by
  refine ⟨by simp [h.len], fun j s x e1 e2 => ?_, h.tr⟩
  rcases get_set_or e1 with ⟨e, e3⟩ | ⟨e, e3⟩
  · subst e3; trivial
  · rw [List.getElem?_set_ne e] at e2
    exact h.at_ j s x e3 e2
theorem EnvE.wipes (h : EnvE K cm xa O H ph ρ σ) : ∀ is : List Nat, EnvE K cm xa O H ph (wipeE ρ is) (L2.wipe σ is)
  | [] => h
  | i :: is => (EnvE.wipes h is).setn
theorem putS_len : ∀ (ts : List Put) (σ : St), (putS ts σ).length = σ.length
  | [], _ => rfl
  | t :: ts, σ => by
    show (putS ts (σ.set t.1 (some t.2.2))).length = _
    rw [putS_len ts]; simp
theorem putS_out {j : Nat} : ∀ (ts : List Put) (σ : St), (∀ t ∈ ts, t.1 ≠ j) → (putS ts σ)[j]? = σ[j]?
  | [], _, _ => rfl
  | t :: ts, σ, h => by
    show (putS ts (σ.set t.1 (some t.2.2)))[j]? = _
    rw [putS_out ts _ fun u hu => h u (List.mem_cons_of_mem _ hu), List.getElem?_set_ne (h t List.mem_cons_self)]
theorem wipe_in {j : Nat} : ∀ {is : List Nat} {σ : St}, j ∈ is → j < σ.length → (L2.wipe σ is)[j]? = some none
  | i :: is, σ, h, l => by
    unfold L2.wipe
    by_cases e : i = j
    · subst e; rw [List.getElem?_set_self (by rw [L2.wipe_length]; exact l)]
    · rw [List.getElem?_set_ne e]
      rcases List.mem_cons.mp h with z | z
      · exact absurd z.symm e
      · exact wipe_in z l
theorem wipe_eq {is : List Nat} {σ τ : St} (hl : σ.length = τ.length) (h : ∀ j, j ∉ is → σ[j]? = τ[j]?) : L2.wipe σ is = L2.wipe τ is := by
  apply List.ext_getElem?
  intro j
  by_cases hj : j ∈ is
  · by_cases hb : j < σ.length
    · rw [wipe_in hj hb, wipe_in hj (by omega)]
    · rw [List.getElem?_eq_none (by rw [L2.wipe_length]; omega), List.getElem?_eq_none (by rw [L2.wipe_length]; omega)]
  · rw [L2.wipe_out hj, L2.wipe_out hj]; exact h j hj
theorem wipe_puts {is : List Nat} {ts : List Put} (h : ∀ t ∈ ts, t.1 ∈ is) : L2.wipe (putS ts (L2.wipe σ is)) is = L2.wipe σ is := by
  refine wipe_eq (by rw [putS_len, L2.wipe_length]) fun j hj => ?_
  rw [putS_out ts _ fun t ht e => hj (by rw [← e]; exact h t ht), L2.wipe_out hj]
theorem StS.puts : ∀ (ts : List Put) {ρ : Env} {σ : St}, (∀ t ∈ ts, Rep K cm H (NN q ρ σ ph) ph t.2.1 t.2.2) → StS K cm xa q ρ ph w σ H → StS K cm xa q (putE ts ρ) ph w (putS ts σ) H ∧ Keep H (NN q ρ σ ph) H (NN q (putE ts ρ) (putS ts σ) ph)
  | [], _, _, _, h => ⟨h, .refl⟩
  | t :: ts, ρ, σ, r, h => by
    have k : Keep H (NN q ρ σ ph) H (NN q (ρ.set t.1 (.val t.2.1)) (σ.set t.1 (some t.2.2)) ph) := keep_set fun _ z => by cases z
    obtain ⟨h2, k2⟩ := StS.puts ts (fun u hu => (r u (List.mem_cons_of_mem _ hu)).keep k (fun _ e => e) _ _) (h.setd (r t List.mem_cons_self))
    exact ⟨h2, k.trans k2⟩
theorem psx_unp {tg e : Expr} {fe : EF} {is : List Nat} (he : PX X c e fe) (hg : PG X tg (L2.gTup X.K is.length (gNames is))) (hs : swapsWithSole [tg] e pos.line X.env = pure false := by rfl) (hw : swappedStores [tg] e X.env = pure none := by rfl)
    (h1 : (assignEach [tg] X.env).map (·.2) = [assign tg X.env] := by rfl) : PSX X c q (.Assign [tg] e pos) (sUnp is fe) :=
  PS.to (L2.ps_asg he hg hs hw h1) fun D σ H ⟨ρ, ph, w, h, hp⟩ => ⟨_, ρ, ph, w, (onE_run h hp).imp fun v H1 ⟨d, ph1, w1, r, h1, k, hp1⟩ => by
    cases e : gT is d ρ with
    | none => rw [e] at hp1; exact (show False from hp1).elim
    | some ρ' =>
      rw [e] at hp1
      obtain ⟨ts, rfl, ht, hq⟩ := tgx_t is r e
      obtain ⟨h2, k2⟩ := StS.puts ts (fun t m => (ht t m).2) h1
      exact hq σ _ (hp1 _ _ ph1 h2 k2.kp)⟩
theorem psx_par {i j : Nat} {x y : Str} {a b : Expr} {fa fb : EF} {px py pt : Pos} {kt k2 pt2} (hc : X.calm = true) (hN : X.N.Nodup) (hi : X.N[i]? = some x) (hj : X.N[j]? = some y) (hij : i ≠ j)
    (hx : X.env.scope.names.lookup x = some .local) (hy : X.env.scope.names.lookup y = some .local) (ha : PAX X c [a, b] [fa, fb])
    (hw : swappedStores [.Tuple [.Name x px, .Name y py] kt pt] (.Tuple [a, b] k2 pt2) X.env = pure (some [x, y]))
    (hs : swapsWithSole [.Tuple [.Name x px, .Name y py] kt pt] (.Tuple [a, b] k2 pt2) pos.line X.env = pure false := by rfl) :
    PSX X c q (.Assign [.Tuple [.Name x px, .Name y py] kt pt] (.Tuple [a, b] k2 pt2) pos) (sPar i j fa fb) :=
  PS.to (L2.ps_par hc hN hi hj hij hx hy ha hw hs) fun D σ H ⟨ρ, ph, w, h, hp⟩ => ⟨_, ρ, ph, w, (onE_run (rel := relL X.K c.cm _) h hp).imp fun vs H1 ⟨ds, ph1, w1, r, h1, k, hp1⟩ => by
    match ds, r, hp1 with
    | [d1, d2], r, hp1 =>
      obtain ⟨v1, r1, rfl, q1, q2⟩ := RepL.uncons r
      obtain ⟨v2, r3, rfl, q3, q4⟩ := q2.uncons
      cases q4.unnil
      refine ⟨v1, v2, rfl, ?_⟩
      have kk : Keep H1 (NN q ρ σ ph1) H1 (NN q (ρ.set i (.val d1)) (σ.set i (some v1)) ph1) := keep_set fun _ z => by cases z
      have k2 : Keep H1 (NN q (ρ.set i (.val d1)) (σ.set i (some v1)) ph1) H1 (NN q ((ρ.set i (.val d1)).set j (.val d2)) ((σ.set i (some v1)).set j (some v2)) ph1) := keep_set fun _ z => by cases z
      exact hp1 _ _ ph1 ((h1.setd q1).setd (q3.keep kk (fun _ e => e) _ _)) (kk.trans k2).kp
    | [], _, hp1 => exact (show False from hp1).elim
    | [_], _, hp1 => exact (show False from hp1).elim
    | _ :: _ :: _ :: _, _, hp1 => exact (show False from hp1).elim⟩
structure Feeds (K : PySem.W.Frag) (cm : Nat → Addr) (J : It) (xs : List D) (C : Hp → NS → Option Addr → Prop) : Prop where
  stay : ∀ {H N H' N' ph ph'}, C H N ph → Keep H N H' N' → PhM ph ph' → C H' N' ph'
  walk : ∃ (G : Hp → Prop) (Y : Nat → Hp → V → Hp → Prop), Walk J xs.length G Y ∧ (∀ H N ph, C H N ph → G H) ∧
    ∀ i d H N ph x H', C H N ph → (∀ p, H p = none → ¬ N p) → xs[i]? = some d → Y i H x H' → (∀ b o, H b = some o → H' b = some o) ∧ Rep K cm H' N ph d x
def relI (K : PySem.W.Frag) (cm : Nat → Addr) (O : NS) : Hp → Option Addr → List D → It → Prop := fun H ph xs J => ∃ C, C H (OO O ph) ph ∧ Feeds K cm J xs C
abbrev PIX (X : Cx) (c : Cfg) (tg iter : Expr) (f : IF) : Prop := PI X tg iter (fun σ H R => ∃ O ρ ph w, Run X.K c.cm c.xa O (relI X.K c.cm O) c.Wx ρ σ ph H w (f ρ) R)
theorem PI.to {tg iter : Expr} {t t' : TI} (h : PI X tg iter t) (m : ∀ σ H R, t' σ H R → t σ H R) : PI X tg iter t' := ⟨fun pins s σ H R I q => h.run pins s σ H R I (m σ H R q)⟩
theorem feeds_list {a : Addr} {ds : List D} {vs : List V} : Feeds K cm (L2.Itl K a) ds (fun H N ph => LN K H N a vs ∧ RepL K cm H N ph ds vs) :=
  ⟨fun h k m => ⟨h.1.keep k, h.2.keep k m ds vs⟩, fun H => L2.SqL K H a vs ∧ ds.length = vs.length, L2.YAt vs, ⟨fun i H hi h => by rw [h.2] at hi; exact (L2.walk_list (K := K) (a := a) (xs := vs)).goes i H hi h.1, fun H h => by rw [h.2]; exact (L2.walk_list (K := K) (a := a) (xs := vs)).stops H h.1, fun i H x H' hi h => by rw [h.2] at hi; exact (L2.walk_list (K := K) (a := a) (xs := vs)).yields i H x H' hi h.1⟩,
    fun H N ph h => ⟨h.1.seq, h.2.length⟩, fun i d H N ph x H' h _ e y => by
      obtain ⟨rfl, y⟩ := y
      obtain ⟨v, e1, r⟩ := h.2.get e
      rw [y] at e1; cases e1
      exact ⟨fun _ _ e => e, r⟩⟩
theorem feeds_tup {a : Addr} {ds : List D} {vs : List V} : Feeds K cm (L2.Itt K a) ds (fun H N ph => TN K H N a vs ∧ RepL K cm H N ph ds vs) :=
  ⟨fun h k m => ⟨h.1.keep k, h.2.keep k m ds vs⟩, fun H => L2.SqT K H a vs ∧ ds.length = vs.length, L2.YAt vs, ⟨fun i H hi h => by rw [h.2] at hi; exact (L2.walk_tup (K := K) (a := a) (xs := vs)).goes i H hi h.1, fun H h => by rw [h.2]; exact (L2.walk_tup (K := K) (a := a) (xs := vs)).stops H h.1, fun i H x H' hi h => by rw [h.2] at hi; exact (L2.walk_tup (K := K) (a := a) (xs := vs)).yields i H x H' hi h.1⟩,
    fun H N ph h => ⟨h.1.seq, h.2.length⟩, fun i d H N ph x H' h _ e y => by
      obtain ⟨rfl, y⟩ := y
      obtain ⟨v, e1, r⟩ := h.2.get e
      rw [y] at e1; cases e1
      exact ⟨fun _ _ e => e, r⟩⟩
theorem rangeL_get {lo hi : Int} {i : Nat} {d : D} (e : (rangeL lo hi)[i]? = some d) : d = .int (lo + i) := by
  unfold rangeL at e
  rw [List.getElem?_map] at e
  cases q : (List.range (hi - lo).toNat)[i]? with
  | none => rw [q] at e; cases e
  | some k =>
    rw [q] at e
    have := List.getElem?_range (n := (hi - lo).toNat) (i := i) (by
      have := (List.getElem?_eq_some_iff.mp q).1; simpa using this)
    rw [this] at q; cases q
    cases e; rfl
theorem feeds_range {lo hi : Int} : Feeds K cm (L2.Itr lo (hi - lo).toNat) (rangeL lo hi) (fun _ _ _ => True) :=
  ⟨fun h _ _ => h, fun _ => True, L2.YFn fun i => .int (lo + i), by
    have e : (rangeL lo hi).length = (hi - lo).toNat := by unfold rangeL; simp
    rw [e]; exact L2.walk_range, fun _ _ _ _ => trivial, fun i d H N ph x H' _ _ e y => by
      obtain ⟨rfl, rfl⟩ := y
      rw [rangeL_get e]
      exact ⟨fun _ _ e => e, by simp [Rep]⟩⟩
theorem pair_new {T : Addr} {x y : V} {d e : D} (hn : ∀ p, H p = none → ¬ N p) (hT : H T = none) (r : Rep K cm H N ph d x) (s : Rep K cm H N ph e y) : (∀ b o, H b = some o → (upd H T (.tup [x, y])) b = some o) ∧ Rep K cm (upd H T (.tup [x, y])) N ph (.tup [d, e]) (.ref T) := by
  have k : Keep H N (upd H T (.tup [x, y])) N := ⟨fun b o _ e => by rw [upd_ne (ne_of_none e hT)]; exact e, fun _ _ _ z => z⟩
  refine ⟨fun b o e => by rw [upd_ne (ne_of_none e hT)]; exact e, ?_⟩
  simp only [Rep]
  exact ⟨T, [x, y], rfl, .inl ⟨hn T hT, .inl upd_same⟩, RepL.cons (r.keep k (fun _ e => e) _ _) (RepL.one (s.keep k (fun _ e => e) _ _))⟩
theorem enumL_get {xs : List D} {i : Nat} {d : D} (e : (enumL xs)[i]? = some d) : ∃ x, xs[i]? = some x ∧ d = .tup [.int (i : Int), x] := by
  unfold enumL at e
  rw [List.getElem?_map, List.getElem?_zipIdx] at e
  cases q : xs[i]? with
  | none => rw [q] at e; cases e
  | some x => rw [q] at e; cases e; exact ⟨x, rfl, by simp⟩
theorem feeds_enum {a : Addr} {ds : List D} {vs : List V} : Feeds K cm (L2.Ite K a) (enumL ds) (fun H N ph => LN K H N a vs ∧ RepL K cm H N ph ds vs) :=
  have el : (enumL ds).length = ds.length := by unfold enumL; simp
  ⟨fun h k m => ⟨h.1.keep k, h.2.keep k m ds vs⟩, fun H => L2.SqL K H a vs ∧ (enumL ds).length = vs.length, L2.YPair (fun i => some (.int (i : Nat))) (fun i => vs[i]?), ⟨fun i H hi h => by rw [h.2] at hi; exact (L2.walk_enum (K := K) (a := a) (xs := vs)).goes i H hi h.1, fun H h => by rw [h.2]; exact (L2.walk_enum (K := K) (a := a) (xs := vs)).stops H h.1, fun i H x H' hi h => by rw [h.2] at hi; exact (L2.walk_enum (K := K) (a := a) (xs := vs)).yields i H x H' hi h.1⟩,
    fun H N ph h => ⟨h.1.seq, el.trans h.2.length⟩, fun i d H N ph x H' h hn e y => by
      obtain ⟨T, x1, y1, rfl, hT, rfl, e1, e2⟩ := y
      obtain ⟨d1, e3, rfl⟩ := enumL_get e
      obtain ⟨v, e4, r⟩ := h.2.get e3
      have e2 : vs[i]? = some y1 := e2
      rw [e2] at e4; cases e4
      cases e1
      exact pair_new hn hT (by simp [Rep]) r⟩
theorem pix_seq {tg e : Expr} {fe : EF} (hh : ∀ {tl : TE}, PE X e tl → PI X tg e (fun σ H R => tl σ H fun x H1 => ∃ a, x = .ref a ∧ ((∃ xs, L2.SqL X.K H1 a xs ∧ R (L2.Itl X.K a) H1) ∨ (∃ xs, L2.SqT X.K H1 a xs ∧ R (L2.Itt X.K a) H1)))) (he : PX X c e fe) : PIX X c tg e (iSeq fe) :=
  PI.to (hh he) fun σ H R ⟨O, ρ, ph, w, h⟩ => ⟨O, ρ, ph, w, (Run.bind (rel := relV X.K c.cm O) h).imp fun v H1 ⟨d, ph1, w1, e1, s1, r1, h1⟩ => by
    cases d with
    | lst ds =>
      obtain ⟨a, vs, rfl, ⟨n, t⟩, rl⟩ := lst_of r1
      exact ⟨a, rfl, .inl ⟨vs, .inl (.inl t), h1.ret (b := L2.Itl X.K a) ⟨_, ⟨.inl ⟨n, .inl t⟩, rl⟩, feeds_list⟩⟩⟩
    | frz ds =>
      obtain ⟨a, vs, rfl, t, rl⟩ := frz_of r1
      exact ⟨a, rfl, .inl ⟨vs, t.seq, h1.ret (b := L2.Itl X.K a) ⟨_, ⟨t, rl⟩, feeds_list⟩⟩⟩
    | tup ds =>
      obtain ⟨a, vs, rfl, t, rl⟩ := tup_of r1
      exact ⟨a, rfl, .inr ⟨vs, t.seq, h1.ret (b := L2.Itt X.K a) ⟨_, ⟨t, rl⟩, feeds_tup⟩⟩⟩
    | _ => exact h1.no⟩
theorem pi_any {tg l : Expr} {tl : TE} (hl : PE X l tl) : PI X tg l (fun σ H R => tl σ H fun x H1 => ∃ a, x = .ref a ∧ ((∃ xs, L2.SqL X.K H1 a xs ∧ R (L2.Itl X.K a) H1) ∨ (∃ xs, L2.SqT X.K H1 a xs ∧ R (L2.Itt X.K a) H1))) := by
  refine ⟨fun pins s σ H R I h => L2.thn (hl.run pins s σ H _ I h) fun u s2 ⟨x, H2, I2, rx, a, ex, hq⟩ => ?_⟩
  subst ex
  cases rx
  have fr : L2.FpOk X pins H2 s2.heap.objs.size := I2.fpOk (Nat.le_refl _) (I2.hok.fresh (Nat.le_refl _))
  rcases hq with ⟨xs, hx, hR⟩ | ⟨xs, hx, hR⟩
  · obtain ⟨its, rv, pl, hz⟩ := I2.list hx
    exact wpAny_pyIter_list pl.isList ⟨s2.heap.objs.size, [s2.heap.objs.size], _, _, H2, rfl, I2.kept (t' := s2.toks) fun b o q => Heap.get?_push_of_some _ q, L2.turn_list a _, ⟨_, Heap.get?_push_size _ rfl, rfl, rfl⟩, fun b hb => by
      rw [List.mem_singleton.mp hb]; exact fr, hR⟩
  · obtain ⟨its, rv, pl, hz⟩ := I2.tuple hx
    exact wpAny_pyIter_tuple (show s2.heap.IsTuple a its.toArray from pl) ⟨s2.heap.objs.size, [s2.heap.objs.size], _, _, H2, rfl, I2.kept (t' := s2.toks) fun b o q => Heap.get?_push_of_some _ q, L2.turn_tuple a _, ⟨_, Heap.get?_push_size _ rfl, rfl, rfl⟩, fun b hb => by
      rw [List.mem_singleton.mp hb]; exact fr, hR⟩
theorem pix_any {tg e : Expr} {fe : EF} (he : PX X c e fe) : PIX X c tg e (iSeq fe) := pix_seq pi_any he
theorem range_run {xa O Wx ρ σ ph H w} {R : It → Hp → Prop} {d1 d2 : D} {v1 v2 : V} (r1 : Rep K cm H (OO O ph) ph d1 v1) (r2 : Rep K cm H (OO O ph) ph d2 v2) (h : Run K cm xa O (relI K cm O) Wx ρ σ ph H w (rangeM d1 d2) R) :
    ∃ i j : Int, v1 = .int i ∧ v2 = .int j ∧ (-(2 ^ 62) ≤ i ∧ i < 2 ^ 62 ∧ -(2 ^ 62) ≤ j ∧ j < 2 ^ 62) ∧ R (L2.Itr i (j - i).toNat) H := by
  cases d1 <;> cases d2 <;> try exact h.no
  rename_i i j
  by_cases hb : (near i && near j) = true
  · simp only [rangeM, if_pos hb] at h
    have hc : -(2 ^ 62) ≤ i ∧ i < 2 ^ 62 ∧ -(2 ^ 62) ≤ j ∧ j < 2 ^ 62 := by
      rw [Bool.and_eq_true] at hb
      exact ⟨(near_of hb.1).1, (near_of hb.1).2, (near_of hb.2).1, (near_of hb.2).2⟩
    exact ⟨i, j, int_of r1, int_of r2, hc, h.ret ⟨_, trivial, feeds_range⟩⟩
  · simp only [rangeM, if_neg hb] at h; exact h.no
theorem pix_range1 {tg a : Expr} {fa : EF} {p : Pos} (hg : L2.Gl X "range") (hm : X.mg "range" = none) (ha : PX X c a fa) (hs : starEach [a] X.env = [(false, eval a X.env)] := by rfl) (he : starEach (a :: []) X.env = (false, eval a X.env) :: starEach [] X.env := by rfl) :
    PIX X c tg (.Call (.Name "range" p) [a] [] pos) (iRng (eC (.int 0)) fa) :=
  PI.to (L2.pi_range1 hg hm (L2.pa_cons ha L2.pa_nil he) hs) fun σ H R ⟨O, ρ, ph, w, h⟩ => by
    have h' : Run X.K c.cm c.xa O (relI X.K c.cm O) c.Wx ρ σ ph H w (M.bind (fa ρ) fun y => rangeM (.int 0) y) R := h
    refine ⟨O, ρ, ph, w, (Run.bind (rel := relV X.K c.cm O) h').imp fun v2 H2 ⟨d2, ph2, w2, e2, s2, r2, h2⟩ => ?_⟩
    obtain ⟨i, j, ei, rfl, hb, q⟩ := range_run (v1 := .int 0) (by simp [Rep]) r2 h2
    cases ei
    refine ⟨j, rfl, hb.2.2.1, hb.2.2.2, ?_⟩
    have e0 : j - 0 = j := Int.sub_zero j
    rw [e0] at q; exact q
theorem psx_for {tg iter : Expr} {body : List Stmt} {f : IF} {g : GF} {gt : TG} {is : List Nat} {b : SF} (hp : PassesOwn (model X.prog X.w) X.A X.env X.xe) (hc : X.calm = true) (hi : PIX X c tg iter f) (hg : PG X tg gt) (hG : TGX X.K c.cm g gt is) (hb : PSSX X c q body b)
    (hs : ∀ x, foldedSetIterable iter X.env x = pure x := by intro _; rfl) : PSX X c q (.For tg iter body [] pos) (sFor f g b) :=
  PS.to (L2.ps_for hp hc hi hg hb hs) fun D σ H ⟨ρ, ph, w, h, hpo⟩ => by
    refine ⟨_, ρ, ph, w, (onE_run h hpo).imp fun J H1 ⟨xs, ph1, w1, ⟨C, hC, F⟩, h1, k1, hp1⟩ => ?_⟩
    obtain ⟨G, Y, hw, hCG, hY⟩ := F.walk
    refine L2.for_it hw (fun i σ' H' => ∃ ρ' ph' w', StS X.K c.cm c.xa q ρ' ph' w' σ' H' ∧ C H' (NN q ρ' σ' ph') ph' ∧ Post2 X.K c.cm c.xa q c.Wx D H' (NN q ρ' σ' ph') ph' (forL g b (xs.drop i) ρ' w')) ⟨ρ, ph1, w1, h1, hC, hp1⟩ (fun i σ' H' _ ⟨ρ', ph', w', _, hC', _⟩ => hCG _ _ _ hC') ?_ ?_
    · rintro i x σ2 H2 H3 hi ⟨ρ2, ph2, w2, h2, hC2, hp2⟩ y
      have ex : xs[i]? = some xs[i] := List.getElem?_eq_getElem hi
      obtain ⟨kx, rx⟩ := hY i xs[i] H2 (NN q ρ2 σ2 ph2) ph2 x H3 hC2 (fun p hpn => fresh_oo h2.env.tr h2.hand hpn) ex y
      have xt : Ext ph2 H2 H3 := fun b o _ e => kx b o e
      have hh3 : HandOk X.K c.cm H3 (OwnS q.O0 ρ2 σ2) ph2 w2 := h2.hand.keep (Ext.keep xt .refl) fun p _ o e => kx p o e
      have h3 := h2.ext xt .refl hh3
      have k3 : Keep H2 (NN q ρ2 σ2 ph2) H3 (NN q ρ2 σ2 ph2) := Ext.keep xt .refl
      have ed : xs.drop i = xs[i] :: xs.drop (i + 1) := List.drop_eq_getElem_cons hi
      rw [ed] at hp2
      cases eg : g xs[i] ρ2 with
      | none => rw [forL_none eg] at hp2; exact (show False from hp2).elim
      | some ρ3 =>
        rw [forL_cons eg] at hp2
        obtain ⟨ts, rfl, ht, hq⟩ := hG rx eg
        obtain ⟨h4, k4⟩ := StS.puts ts (fun t m => (ht t m).2) h3
        refine hq σ2 _ ⟨_, ph2, w2, h4, ?_⟩
        have kk := k3.trans k4
        have hC4 := F.stay hC2 kk (fun _ e => e)
        have hp4 := hp2.keep kk.kp
        revert hp4
        cases eb : b (putE ts ρ2) w2 with
        | nx ρ5 w5 => exact fun hp4 σ5 H5 ph5 h5 k5 => ⟨ρ5, ph5, w5, h5, F.stay hC4 k5.k k5.m, hp4.keep k5⟩
        | ct ρ5 w5 => exact fun hp4 σ5 H5 ph5 h5 k5 => ⟨ρ5, ph5, w5, h5, F.stay hC4 k5.k k5.m, hp4.keep k5⟩
        | bk ρ5 w5 => exact fun hp4 => hp4
        | rt d w5 => exact fun hp4 => hp4
        | ex c ns xs ρ5 w5 => exact fun hp4 => hp4
        | bad => exact fun hp4 => hp4
    · rintro σ2 H2 ⟨ρ2, ph2, w2, h2, hC2, hp2⟩
      rw [List.drop_length] at hp2
      exact hp2 σ2 H2 ph2 h2 .refl
def delD (H : Hp) (D : Addr) : Hp := fun b => if b = D then none else H b
theorem delD_same {D : Addr} : delD H D D = none := if_pos rfl
theorem delD_ne {D b : Addr} (h : b ≠ D) : delD H D b = H b := if_neg h
theorem delD_some {D b : Addr} {o : HO} (h : delD H D b = some o) : b ≠ D ∧ H b = some o := by
  by_cases e : b = D
  · subst e; rw [delD_same] at h; cases h
  · rw [delD_ne e] at h; exact ⟨e, h⟩
theorem upd_del {D : Addr} {o : HO} (h : H D = some o) : upd (delD H D) D o = H := by
  funext b
  by_cases e : b = D
  · subst e; rw [upd_same, h]
  · rw [upd_ne e, delD_ne e]
theorem del_upd {D : Addr} {o : HO} (h : H D = none) : delD (upd H D o) D = H := by
  funext b
  by_cases e : b = D
  · subst e; rw [delD_same, h]
  · rw [delD_ne e, upd_ne e]
def addO (O : NS) (D : Addr) : NS := fun a => O a ∨ a = D
abbrev noW : WX := fun _ _ _ _ => False
structure LcS (K : PySem.W.Frag) (cm : Nat → Addr) (xa : Option (Addr × Nat × Addr)) (O : NS) (D : Addr) (ρ : Env) (σ : St) (ph : Option Addr) (w : Wd) (ds : List FL.D) (n : Nat) (H : Hp) : Prop where
  env : EnvE K cm xa (addO O D) H ph ρ σ
  hand : HandOk K cm H (addO O D) ph w
  acc : ∃ vs, H D = some (.lst vs) ∧ RepL K cm H (OO (addO O D) ph) ph ds vs ∧ vs.length ≤ n
theorem addO_keep {D : Addr} : Keep H (OO (addO O D) ph) (delD H D) (OO O ph) :=
  ⟨fun b o n e => by rw [delD_ne (fun z => n (.inl (.inr z)))]; exact e, fun b o _ x => x.elim (fun y => .inl (.inl y)) .inr⟩
theorem del_ext {D : Addr} (x : Ext ph H H') : Ext ph (delD H D) (delD H' D) := fun b o n e => by
  obtain ⟨h1, h2⟩ := delD_some e
  rw [delD_ne h1]; exact x b o n h2
theorem del_phs {D : Addr} (s : PhS H ph ph') : PhS (delD H D) ph ph' := by
  rcases s with s | ⟨s, p, s2, hp⟩
  · exact .inl s
  · refine .inr ⟨s, p, s2, ?_⟩
    by_cases e : p = D
    · subst e; exact delD_same
    · rw [delD_ne e]; exact hp
theorem addO_new {D : Addr} {o : HO} (hD : H D = none) : Keep H (OO O ph) (upd H D o) (OO (addO O D) ph) := by
  refine ⟨fun b u _ e => by rw [upd_ne (ne_of_none e hD)]; exact e, fun b u e x => ?_⟩
  rcases x with (x | x) | x
  · exact .inl x
  · rw [x, hD] at e; cases e
  · exact .inr x
theorem addO_upd {D : Addr} {o : HO} : Keep H (OO (addO O D) ph) (upd H D o) (OO (addO O D) ph) :=
  ⟨fun b u n e => by rw [upd_ne (fun z => n (.inl (.inr z)))]; exact e, fun _ _ _ x => x⟩
def NotD (D : Addr) (ρ : Env) (σ : St) : Prop := ∀ (i : Nat) p xs, ρ[i]? = some (.own xs) → σ[i]? = some (some (.ref p)) → p ≠ D
theorem LcS.start {D : Addr} {is : List Nat} (hD : H D = none) (he : EnvE K cm xa O H ph ρ σ) (hh : HandOk K cm H O ph w) : LcS K cm xa O D (wipeE ρ is) (L2.wipe σ is) ph w [] 0 (upd H D (.lst [])) ∧ NotD D (wipeE ρ is) (L2.wipe σ is) := by
  have hw := he.wipes is
  have kk := addO_new (O := O) (ph := ph) (o := .lst []) hD
  have nd : NotD D (wipeE ρ is) (L2.wipe σ is) := fun i p xs h1 h2 z => by
    obtain ⟨p', vs, e1, o, e2, _⟩ := hw.ownd h1
    rw [h2] at e1; cases e1
    rw [z, hD] at e2; cases e2
  have nph : ph ≠ some D := fun e => by
    obtain ⟨vs, z⟩ := hh.tr e
    rw [hD] at z; cases z
  refine ⟨⟨⟨hw.len, fun i s x e1 e2 => (hw.at_ i s x e1 e2).keep kk (fun _ e => e) fun ds p hs hx o => ⟨.inl o, fun u z => by rw [upd_ne (nd i p ds (by rw [e1, hs]) (by rw [e2, hx]))]; exact z⟩, fun a o => ?_⟩, hh.keep kk fun p e u z => by rw [upd_ne (ne_of_none z hD)]; exact z, [], upd_same, RepL.nil, Nat.le_refl _⟩, nd⟩
  rcases o with o | o
  · obtain ⟨n, vs, z, k⟩ := he.tr a o
    exact ⟨n, vs, by rw [upd_ne (ne_of_none z hD)]; exact z, k⟩
  · subst o; exact ⟨nph, _, upd_same, .lst []⟩
theorem LcS.ext {D : Addr} {ds : List FL.D} {n : Nat} (x : Ext ph H H') (s : PhS H ph ph') (hk : HandOk K cm H' (addO O D) ph' w') (h : LcS K cm xa O D ρ σ ph w ds n H) : LcS K cm xa O D ρ σ ph' w' ds n H' := by
  obtain ⟨vs, h1, h2, h3⟩ := h.acc
  have nph : ph ≠ some D := (h.env.tr D (.inr rfl)).1
  exact ⟨h.env.ext x s, hk, vs, x D _ nph h1, h2.keep (Ext.keep x s) s.m ds vs, h3⟩
theorem LcS.app {D : Addr} {ds : List FL.D} {n : Nat} {d : FL.D} {v : V} {vs : List V} (nd : NotD D ρ σ) (h1 : H D = some (.lst vs)) (h2 : RepL K cm H (OO (addO O D) ph) ph ds vs) (h3 : vs.length ≤ n) (r : Rep K cm H (OO (addO O D) ph) ph d v)
    (h : LcS K cm xa O D ρ σ ph w ds n H) : LcS K cm xa O D ρ σ ph w (ds ++ [d]) (n + 1) (upd H D (.lst (vs ++ [v]))) := by
  have kk := addO_upd (H := H) (O := O) (ph := ph) (D := D) (o := .lst (vs ++ [v]))
  have nph : ph ≠ some D := (h.env.tr D (.inr rfl)).1
  refine ⟨⟨h.env.len, fun i s x e1 e2 => (h.env.at_ i s x e1 e2).keep kk (fun _ e => e) fun ds p hs hx o => ⟨o, fun u z => by rw [upd_ne (nd i p ds (by rw [e1, hs]) (by rw [e2, hx]))]; exact z⟩, fun a o => ?_⟩, h.hand.keep kk fun p e u z => by rw [upd_ne (fun y => nph (by rw [← y]; exact e))]; exact z, vs ++ [v], upd_same, (h2.append (RepL.one r)).keep kk (fun _ e => e) _ _, by rw [List.length_append]; simp; exact h3⟩
  by_cases z : a = D
  · subst z; exact ⟨nph, _, upd_same, .lst _⟩
  · obtain ⟨n', us, e, k⟩ := h.env.tr a o
    exact ⟨n', us, by rw [upd_ne z]; exact e, k⟩
theorem lc_read {own : List (Str × Nat)} {f : IF} {g : GF} {gt : TG} {is : List Nat} {t : TF} {fe : EF} (his : own.map (·.2) = is) (hG : TGX X.K c.cm g gt is) : ∀ σ H Q, tNX X.K c.cm c.xa c.Wx (nLc f is g t fe) σ H Q →
    L2.tLc (fun σ H R => ∃ O ρ ph w, Run X.K c.cm c.xa O (relI X.K c.cm O) c.Wx ρ σ ph H w (f ρ) R) gt (tTX X.K c.cm c.xa noW t) (tX X.K c.cm c.xa noW fe) (own.map (·.2)) σ H Q := fun σ H Q ⟨O, ρ, ph, w, h⟩ => by
    subst his
    refine ⟨O, ρ, ph, w, (Run.bind (rel := relI X.K c.cm O) h).imp fun J H1 ⟨xs, ph1, w1, e1, s1, ⟨C, hC, F⟩, h1⟩ D hD => ?_⟩
    by_cases hl : xs.length ≤ line
    · simp only [if_pos hl] at h1
      obtain ⟨G, Y, hw, hCG, hY⟩ := F.walk
      obtain ⟨L0, nd⟩ := LcS.start (is := own.map (·.2)) hD h1.env h1.hand
      refine L2.lc_it hw (fun i H' => ∃ ds ph' w', LcS X.K c.cm c.xa O D (wipeE ρ (own.map (·.2))) (L2.wipe σ (own.map (·.2))) ph' w' ds i H' ∧ C H' (OO (addO O D) ph') ph' ∧
        Post1 X.K c.cm O (relL X.K c.cm O) c.Wx σ ph' (delD H' D) (fun vs H1 => ∀ p, H1 p = none → Q (.ref p) (upd H1 p (.lst vs))) (M.bind (lcL g t fe (wipeE ρ (own.map (·.2))) (xs.drop i)) (fun ys => M.ret (ds ++ ys)) w')) ?_ (fun i H' _ ⟨ds, ph', w', _, hC', _⟩ => hCG _ _ _ hC') ?_ ?_
      · refine ⟨[], ph1, w1, L0, F.stay hC (addO_new hD) (fun _ e => e), ?_⟩
        rw [del_upd hD, List.drop_zero]
        have e : M.bind (lcL g t fe (wipeE ρ (own.map (·.2))) xs) (fun ys => M.ret ([] ++ ys)) = lcL g t fe (wipeE ρ (own.map (·.2))) xs := by
          have : (fun ys : List FL.D => M.ret ([] ++ ys)) = M.ret := by funext ys; rw [List.nil_append]
          rw [this, bind_ret]
        rw [e]; exact h1.post
      · rintro i x H2 H3 hi ⟨ds, ph2, w2, L, hC2, hp2⟩ y
        have ex : xs[i]? = some xs[i] := List.getElem?_eq_getElem hi
        obtain ⟨kx, rx⟩ := hY i xs[i] H2 (OO (addO O D) ph2) ph2 x H3 hC2 (fun p hpn => fresh_oo L.env.tr L.hand hpn) ex y
        have xt : Ext ph2 H2 H3 := fun b o _ e => kx b o e
        have hh3 : HandOk X.K c.cm H3 (addO O D) ph2 w2 := L.hand.keep (Ext.keep xt .refl) fun p _ o e => kx p o e
        have L3 := L.ext xt .refl hh3
        have hC3 := F.stay hC2 (Ext.keep xt .refl) (fun _ e => e)
        have hp3 := hp2.ext (del_ext (D := D) xt) .refl
        have ed : xs.drop i = xs[i] :: xs.drop (i + 1) := List.drop_eq_getElem_cons hi
        rw [ed] at hp3
        cases eg : g xs[i] (wipeE ρ (own.map (·.2))) with
        | none => unfold lcL at hp3; rw [eg] at hp3; exact (show False from hp3).elim
        | some ρ1 =>
          obtain ⟨ts, e2, hts, hq⟩ := hG rx eg
          refine hq (L2.wipe σ (own.map (·.2))) _ ?_
          refine ⟨wipe_puts fun t m => (hts t m).1, addO O D, ρ1, ph2, w2, ?_⟩
          have E3 : EnvE X.K c.cm c.xa (addO O D) H3 ph2 ρ1 (putS ts (L2.wipe σ (own.map (·.2)))) := by rw [e2]; exact L3.env.puts ts fun t m => (hts t m).2
          refine ⟨E3, hh3, ?_⟩
          cases et : t ρ1 w2 with
          | ex => rw [lcL_badt eg (by rw [et]; intro _ _ z; cases z)] at hp3; exact (show False from hp3).elim
          | bad => rw [lcL_badt eg (by rw [et]; intro _ _ z; cases z)] at hp3; exact (show False from hp3).elim
          | ok k w3 =>
            intro b H4 ph4 x4 s4 k4 eb
            cases eb
            have L4 := L3.ext x4 s4 k4
            have hC4 := F.stay hC3 (Ext.keep x4 s4) s4.m
            have hp4 := hp3.ext (del_ext (D := D) x4) (del_phs s4)
            cases k with
            | false =>
              rw [lcL_false eg et] at hp4
              obtain ⟨vs, h1', h2', h3'⟩ := L4.acc
              exact ⟨ds, ph4, w3, ⟨L4.env, L4.hand, vs, h1', h2', Nat.le_succ_of_le h3'⟩, hC4, hp4⟩
            | true =>
              refine ⟨addO O D, ρ1, ph4, w3, E3.ext x4 s4, k4, ?_⟩
              cases ee : fe ρ1 w3 with
              | ex => rw [lcL_bade eg et (by rw [ee]; intro _ _ z; cases z)] at hp4; exact (show False from hp4).elim
              | bad => rw [lcL_bade eg et (by rw [ee]; intro _ _ z; cases z)] at hp4; exact (show False from hp4).elim
              | ok d w5 =>
                rw [lcL_true eg et ee] at hp4
                intro v H5 ph5 x5 s5 k5 rv
                have L5 := L4.ext x5 s5 k5
                have hC5 := F.stay hC4 (Ext.keep x5 s5) s5.m
                have hp5 := hp4.ext (del_ext (D := D) x5) (del_phs s5)
                obtain ⟨vs, h1', h2', h3'⟩ := L5.acc
                refine ⟨vs, h1', by rw [sizeLine_eq]; unfold line at hl; omega, ds ++ [d], ph5, w5, L5.app nd h1' h2' h3' rv, F.stay hC5 addO_upd (fun _ e => e), ?_⟩
                have e9 : delD (upd H5 D (.lst (vs ++ [v]))) D = delD H5 D := by
                  funext b
                  by_cases z : b = D
                  · subst z; rw [delD_same, delD_same]
                  · rw [delD_ne z, delD_ne z, upd_ne z]
                rw [e9]
                have e10 : (fun ys : List FL.D => M.ret (ds ++ d :: ys)) = fun ys => M.ret (ds ++ [d] ++ ys) := by
                  funext ys
                  rw [List.append_assoc]; rfl
                rw [e10] at hp5
                exact hp5
      · rintro H2 ⟨ds, ph2, w2, L, hC2, hp2⟩
        rw [List.drop_length] at hp2
        have hp3 : Post1 X.K c.cm O (relL X.K c.cm O) c.Wx σ ph2 (delD H2 D) (fun vs H1 => ∀ p, H1 p = none → Q (.ref p) (upd H1 p (.lst vs))) (.ok ds w2) := by
          have e : M.bind (lcL g t fe (wipeE ρ (own.map (·.2))) []) (fun ys => M.ret (ds ++ ys)) w2 = .ok ds w2 := by
            show R.ok (ds ++ []) w2 = _
            rw [List.append_nil]
          rw [← e]; exact hp2
        obtain ⟨vs, h1', h2', _⟩ := L.acc
        have nph : ph2 ≠ some D := (L.env.tr D (.inr rfl)).1
        have := hp3 vs (delD H2 D) ph2 .refl .refl (L.hand.keep addO_keep fun p e u z => by rw [delD_ne (fun y => nph (by rw [← y]; exact e))]; exact z) (h2'.keep addO_keep (fun _ e => e) ds vs) D delD_same
        rw [upd_del h1'] at this
        exact this
    · simp only [if_neg hl] at h1; exact h1.no
theorem pnx_lc {elt tg iter : Expr} {ifs : List Expr} {scope : Scope} {own : List (Str × Nat)} {f : IF} {g : GF} {gt : TG} {is : List Nat} {t : TF} {fe : EF} (hc : X.calm = true) (hN : X.N.Nodup) (hi : PIX X c tg iter f) (ok : L2.BlkOk X.N X.env.scope scope own) (his : own.map (·.2) = is)
    (hg : ∀ (s : Shared) (H : Hp) (C : Addr) (cl : List (Str × Addr)) (fp : List Addr), PG (X.blk s H scope (compEnvC scope cl C X.env) fp) tg gt) (hG : TGX X.K c.cm g gt is)
    (ht : ∀ (s : Shared) (H : Hp) (C : Addr) (cl : List (Str × Addr)) (fp : List Addr), L2.PTs (X.blk s H scope (compEnvC scope cl C X.env) fp) ifs (tTX X.K c.cm c.xa noW t))
    (he : ∀ (s : Shared) (H : Hp) (C : Addr) (cl : List (Str × Addr)) (fp : List Addr), PE (X.blk s H scope (compEnvC scope cl C X.env) fp) elt (tX X.K c.cm c.xa noW fe)) (hs : ∀ x, foldedSetIterable iter X.env x = pure x := by intro _; rfl) :
    PNX X c (.ListComp elt [⟨tg, iter, ifs, 0⟩] scope pos) (nLc f is g t fe) :=
  PE.to (L2.pe_lc hc hN hi ok hg ht he hs) (lc_read his hG)
end
end FL
namespace FL
open PySem
open L2 (V Hp HO Cx Inv VK XK TE TT TA TS TI TG PE PT PA PS PSs PI PG Ends WX RelV Vals Rd upd upd_same upd_ne ne_of_none EP TP AP OpR R2 CallR FnOk Room Binds)
section
variable {P : Program} {w : World} {K : PySem.W.Frag} {mg : Str → Option Value} {base : Heap} {cm : Nat → Addr}
theorem vals_get {ds : List D} {n : Nat} {i : Nat} {s : Slot} (e : (vals ds ++ List.replicate n Slot.none)[i]? = some s) : (∃ d, ds[i]? = some d ∧ s = .val d) ∨ s = .none := by
  unfold vals at e
  by_cases h : i < ds.length
  · rw [List.getElem?_append_left (by simpa using h), List.getElem?_map] at e
    rw [List.getElem?_eq_getElem h] at e
    cases e
    exact .inl ⟨_, List.getElem?_eq_getElem h, rfl⟩
  · rw [List.getElem?_append_right (by simp; omega), List.getElem?_replicate] at e
    split at e
    · cases e; exact .inr rfl
    · cases e
theorem own_vals {O : NS} {ds : List D} {n : Nat} {σ : St} {a : Addr} : OwnS O (vals ds ++ List.replicate n Slot.none) σ a → O a := fun h => by
  rcases h with h | ⟨i, xs, e, _⟩
  · exact h
  · rcases vals_get e with ⟨d, _, z⟩ | z <;> cases z
theorem start_sts {H : Hp} {O : NS} {ph : Option Addr} {wd : Wd} {ds : List D} {vs : List V} {N : List Str} (hl : ds.length ≤ N.length) (tr : OTr H O ph) (hand : HandOk K cm H O ph wd) (r : RepL K cm H (OO O ph) ph ds vs) :
    StS K cm none ⟨H, O, ph⟩ (vals ds ++ List.replicate (N.length - ds.length) Slot.none) ph wd (L2.start N vs) H := by
  have l := r.length
  have no : ∀ a, O a → OwnS O (vals ds ++ List.replicate (N.length - ds.length) Slot.none) (L2.start N vs) a := fun _ x => .inl x
  refine ⟨⟨?_, fun i s x e1 e2 => ?_, tr.less fun _ => own_vals⟩, hand.less fun _ => own_vals, .refl, .refl, tr, fun i j p xs ys e => ?_, fun i p xs e => ?_, fun i es v e => ?_⟩
  · unfold L2.start vals; simp; omega
  · rcases vals_get e1 with ⟨d, ed, es⟩ | es
    · subst es
      obtain ⟨v, ev, rv⟩ := r.get ed
      have hi : i < vs.length := (List.getElem?_eq_some_iff.mp ev).1
      unfold L2.start at e2
      rw [List.getElem?_append_left (by simpa using hi), List.getElem?_map, ev] at e2
      cases e2
      exact ⟨v, rfl, rv.keep (Keep.less (OO.mono fun _ => own_vals)) (fun _ e => e) d v⟩
    · subst es; trivial
  · rcases vals_get e with ⟨d, _, z⟩ | z <;> cases z
  · rcases vals_get e with ⟨d, _, z⟩ | z <;> cases z
  · rcases vals_get e with ⟨d, _, z⟩ | z <;> cases z
theorem fn_ok {x qual : Str} {params : Arguments} {body : List Stmt} {scope : Scope} {dvs : List V} {kws : List (Str × V)} {f : Addr} {fd : FuncData} {N ps : List Str} {k : Nat} {b : SF} (F : L2.FunD K x qual params body scope dvs kws f fd) (S : L2.FnScope N ps scope)
    (hn : ps.length ≤ N.length)
    (hb : ∀ (cdv : Value) (A : Around) (outer : List PySem.Env) (s : Shared) (H : Hp) (E : XK) (q : Sq), Room k (A.deeper (PyProof.Rows.envOfC qual scope s.heap.objs.size f cdv)) →
      PSSX (L2.cxOf (L2N.CX P w) P w K mg base N qual scope f cdv A outer s H E) ⟨cm, none, fun cls d _ H' => E cls d H'⟩ q body b) :
    FnOk P w K mg base (L2N.CX P w) (k + 1) f fd ps (spX K cm ps.length (callF N.length b)) := by
  refine F.ok S (fun vs H Q E h => h.1) fun cdv A outer s H vs Q E hr h => ?_
  obtain ⟨hl, O, ds, ph, wd, tr, hand, r, post⟩ := h
  refine ⟨_, hb cdv A outer s H E ⟨H, O, ph⟩ hr, vals ds ++ List.replicate (N.length - ds.length) Slot.none, ph, wd, start_sts (by rw [r.length, hl]; exact hn) tr hand r, ?_⟩
  unfold callF at post
  cases e : b (vals ds ++ List.replicate (N.length - ds.length) Slot.none) wd with
  | nx ρ' w' =>
    rw [e] at post
    intro σ' H' ph' s1 k1
    exact post .non H' ph' s1.base s1.phs (s1.hand.less fun _ z => .inl z) (by simp [Rep])
  | rt d w' =>
    rw [e] at post
    intro v H' ph' x1 s1 hk rv
    exact post v H' ph' x1 s1 hk rv
  | ex c ns xs ρ' w' =>
    rw [e] at post
    intro σ' H' ph' dd vs s1 k1 hd l rv
    exact post dd H' ph' vs s1.base s1.phs (s1.hand.less fun _ z => .inl z) hd l (rv.keep (Keep.less (OO.mono fun _ z => .inl z)) (fun _ e => e) xs vs)
  | bk ρ' w' => rw [e] at post; exact (show False from post).elim
  | ct ρ' w' => rw [e] at post; exact (show False from post).elim
  | bad => rw [e] at post; exact (show False from post).elim
end
section
variable {P : Program} {w : World} {K : PySem.W.Frag} {mg : Str → Option Value} {base : Heap} {cm : Nat → Addr}
def spI (K : PySem.W.Frag) (ns : List Str) (m : Nat) : L2.Sp := fun vs H Q _ => vs.length = m ∧ ∃ (a C : Addr) (xs : List V), vs = .ref a :: xs ∧ xs.length = ns.length ∧ L2.OexC K C ∧ H a = some (L2.exo a C none) ∧ (∀ n, n ∈ ns → PySem.W.findIn K (.ref C) n = some none) ∧
  ∀ (dx : Addr) (H2 : Hp), H dx = none → dx ≠ a → H2 dx = some (L2.exd dx (ns.zip xs).reverse) → H2 a = some (L2.exo a C (some dx)) → (∀ b, b ≠ a → b ≠ dx → H2 b = H b) → Q .non H2
section
variable {x qual : Str} {params : Arguments} {scope : Scope} {f : Addr} {fd : FuncData} {N ps : List Str} {n0 n1 n2 n3 f1 f2 f3 : Str} {p1 p2 p3 p4 p5 p6 p7 p8 p9 q1 q2 q3 : Pos}
theorem init1_ok (F : L2.FunD K x qual params [.Assign [.Attribute (.Name n0 p1) f1 p2] (.Name n1 p3) p4] scope [] [] f fd) (S : L2.FnScope [n0, n1] ps scope) (hps : ps.length = 2)
    (v0 : L2.Vis scope n0) (v1 : L2.Vis scope n1) (d0 : (n0 == ("__debug__" : Str)) = false) (d1 : (n1 == ("__debug__" : Str)) = false) (c0 : (n0 == ("__classdict__" : Str)) = false) (c1 : (n1 == ("__classdict__" : Str)) = false)
    (hsw : ∀ env : PySem.Env, swapsWith (.Name n1 p3) (some (.Attribute (.Name n0 p1) f1 p2)) p4.line env = pure false) : FnOk P w K mg base (L2N.CX P w) 1 f fd ps (spI K [f1] 2) := by
  refine F.ok S (fun vs H Q E h => by rw [h.1, hps]) fun cdv A outer s H vs Q E hr h => ⟨_, L2.pss_one (L2.ps_ost (L2.pe_var (i := 0) rfl v0 d0 c0) (L2.pe_var (i := 1) rfl v1 d1 c1) (hsw _)), ?_⟩
  obtain ⟨hl, a, C, xs, ev, hx, T, ha, hno, hq⟩ := h
  subst ev
  match xs, hx with
  | [y], _ =>
    refine ⟨y, rfl, .ref a, rfl, a, C, rfl, T, hno f1 (List.mem_cons_self ..), .inl ⟨ha, fun dx hn ne => hq dx _ hn ne ?_ ?_ fun b b1 b2 => ?_⟩⟩
    · rw [upd_ne ne, upd_same]; rfl
    · rw [upd_same]
    · rw [upd_ne b1, upd_ne b2]
end
def spIC (K : PySem.W.Frag) (Cl : Addr) (ns : List Str) (m : Nat) : L2.Sp := fun vs H Q _ => vs.length = m ∧ ∃ (a : Addr) (xs : List V), vs = .ref a :: xs ∧ xs.length = ns.length ∧ L2.OexC K Cl ∧ H a = some (L2.exo a Cl none) ∧ (∀ n, n ∈ ns → PySem.W.findIn K (.ref Cl) n = some none) ∧
  ∀ (dx : Addr) (H2 : Hp), H dx = none → dx ≠ a → H2 dx = some (L2.exd dx (ns.zip xs).reverse) → H2 a = some (L2.exo a Cl (some dx)) → (∀ b, b ≠ a → b ≠ dx → H2 b = H b) → Q .non H2
theorem FnOk.spC {P : Program} {w : World} {K : PySem.W.Frag} {mg : Str → Option Value} {base : Heap} {CX : L2.CXT} {k : Nat} {f : Addr} {fd : FuncData} {ps ns : List Str} {m : Nat} (F : FnOk P w K mg base CX k f fd ps (spI K ns m)) (Cl : Addr) : FnOk P w K mg base CX k f fd ps (spIC K Cl ns m) :=
  F.imp fun vs H Q E ⟨l, a, xs, e1, e2, T, e3, e4, hq⟩ => ⟨l, a, Cl, xs, e1, e2, T, e3, e4, hq⟩
structure ExcK (K : PySem.W.Frag) (mg : Str → Option Value) (base : Heap) (P : Program) (w : World) (x : Str) (C fI : Addr) (fd : FuncData) (ps : List Str) (ns : List Str) : Prop where
  T : L2.OexC K C
  iC : PySem.W.findIn K (.ref C) "__init__" = some (some (.ref fI))
  tI : PySem.W.typeIn K (.ref fI) = some (.type "function")
  F : FnOk P w K mg base (L2N.CX P w) 1 fI fd ps (spIC K C ns (ns.length + 1))
  hb : Binds K fd ps []
  hm : mg x = some (.ref C)
  hno : ∀ n, n ∈ ns → PySem.W.findIn K (.ref C) n = some none
end
section
variable {X : Cx} {c : Cfg} {q : Sq} {pos : Pos} {e : Expr} {fe : EF} {st : Stmt} {sts : List Stmt} {s t : SF}
theorem evs_run2 {K : PySem.W.Frag} {cm : Nat → Addr} {xa : Option (Addr × Nat × Addr)} {Wx : WX} {q : Sq} {ρ : Env} {σ : St} {ph : Option Addr} {H : Hp} {w : Wd} {D : Ends} {fs : List EF} {k : List FL.D → Wd → SR} (h : StS K cm xa q ρ ph w σ H) (hp : Post2 K cm xa q Wx D H (NN q ρ σ ph) ph (onE (evs fs ρ) ρ w k)) :
    Run K cm xa (OwnS q.O0 ρ σ) (relL K cm (OwnS q.O0 ρ σ)) Wx ρ σ ph H w (evs fs ρ) (fun vs H1 => ∃ ds ph1 w1, ds.length = fs.length ∧ RepL K cm H1 (NN q ρ σ ph1) ph1 ds vs ∧ StS K cm xa q ρ ph1 w1 σ H1 ∧ Kp H (NN q ρ σ ph) ph H1 (NN q ρ σ ph1) ph1 ∧ Post2 K cm xa q Wx D H1 (NN q ρ σ ph1) ph1 (k ds w1)) := by
  refine ⟨h.env, h.hand, ?_⟩
  unfold onE at hp
  cases e : evs fs ρ w with
  | ok ds w1 =>
    rw [e] at hp
    intro vs H1 ph1 x s hk r
    have kk : Kp H (NN q ρ σ ph) ph H1 (NN q ρ σ ph1) ph1 := ⟨Ext.keep x s, s.m⟩
    exact ⟨ds, ph1, w1, evs_len _ _ _ _ e, r, h.ext x s hk, kk, hp.keep kk⟩
  | ex c ns xs w1 =>
    rw [e] at hp
    intro dd H1 ph1 vs x s hk hd l r
    exact hp σ H1 ph1 dd vs (h.ext x s hk) ⟨Ext.keep x s, s.m⟩ hd l r
  | bad => rw [e] at hp; exact hp
theorem psx_raise {x : Str} {p pos' : Pos} {es : List Expr} {fs : List EF} {C fI : Addr} {fd : FuncData} {ps ns : List Str} (k : Nat) (G : ExcK X.K X.mg X.base X.prog X.w x C fI fd ps ns) (hC : c.cm k = C) (hc : X.calm = true) (tk : L2N.Takes X c.Wx) (hr : Room 2 X.A) (hg : L2.Gl X x)
    (ha : PAX X c (e :: es) fs) (hn : fs.length = ns.length := by rfl) (hl : ns.length ≤ 1000 := by decide) (hdb : (x == ("__debug__" : Str)) = false := by decide) (he : starEach (e :: es) X.env = (false, eval e X.env) :: starEach es X.env := by rfl) (hpl : (backTo pos (starEach es X.env)).any (·.1) = false := by rfl) :
    PSX X c q (.Raise (some (.Call (.Name x p) (e :: es) [] pos)) none pos') (sRaise k ns fs) := by
  refine PS.to (L2N.ps_raise hc tk (pmkN G.T G.iC G.tI G.F hr G.hb .nil passN hg G.hm ha hdb he hpl)) fun D σ H ⟨ρ, ph, w, h, hp⟩ => ?_
  refine ⟨_, ρ, ph, w, (evs_run2 h hp).imp fun vs H1 ⟨ds, ph1, w1, l, r, h1, k1, hp1⟩ => ?_⟩
  have lv : vs.length = ns.length := by rw [← r.length, l, hn]
  refine ⟨by omega, fun a hna => ⟨by simp [lv], a, vs, by simp, lv, G.T, upd_same, G.hno, fun dx H2 hdx ne e1 e2 e3 => ⟨rfl, dx, (ns.zip vs).reverse, e2, e1, ?_, ?_⟩⟩⟩
  · rw [upd_ne ne] at hdx; exact hdx
  · have hdx' : H1 dx = none := by rw [upd_ne ne] at hdx; exact hdx
    have eH : upd (L2.del H2 a) dx (.xd (ns.zip vs).reverse) = upd H1 dx (.xd (ns.zip vs).reverse) := by
      funext b
      by_cases b2 : b = dx
      · subst b2; rw [upd_same, upd_same]
      · rw [upd_ne b2, upd_ne b2]
        by_cases b1 : b = a
        · subst b1; rw [L2.del_same, hna]
        · rw [L2.del_ne b1, e3 b b1 b2, upd_ne b1]
    rw [eH, ← hC]
    have k2 : Keep H1 (NN q ρ σ ph1) (upd H1 dx (.xd (ns.zip vs).reverse)) (NN q ρ σ ph1) := Ext.keep (ext_new hdx') .refl
    exact hp1 σ _ ph1 dx vs (h1.ext (ext_new hdx') .refl (h1.hand.new hdx')) k2.kp upd_same lv.symm (r.keep k2 (fun _ e => e) ds vs)
end
end FL
namespace FL
open PySem
open L2 (V Hp HO Cx Inv VK XK TE TT TA TS TI TG PE PT PA PS PSs PI PG Ends WX RelV Vals Rd upd upd_same upd_ne ne_of_none EP TP AP OpR R2 CallR FnOk Room Binds)
section
variable {K : PySem.W.Frag} {cm : Nat → Addr} {xa xb : Option (Addr × Nat × Addr)} {q : Sq} {ρ ρ' : Env} {σ : St} {H H' : Hp} {N N1 : NS} {ph ph' : Option Addr} {w w' : Wd} {Wx : WX} {D : Ends} {O : NS}
theorem SlotR.free {s : Slot} {x : Option V} (h : SlotR K cm none O H ph s x) : SlotR K cm xb O H ph s x := by
  cases s with
  | none => trivial
  | val d => exact h
  | own ds => exact h
  | nest ds => exact h
  | exc c ns ds => obtain ⟨a, dd, vs, _, z, _⟩ := h; cases z
  | slf => obtain ⟨_, _, _, _, z⟩ := h; cases z
theorem StS.free (h : StS K cm none q ρ ph w σ H) : StS K cm xb q ρ ph w σ H :=
  ⟨⟨h.env.len, fun i s x e1 e2 => (h.env.at_ i s x e1 e2).free, h.env.tr⟩, h.hand, h.base, h.phs, h.o0, h.inj, h.fresh, h.news⟩
theorem StS.xd_new {a dd : Addr} {o : List (Str × V)} (h : StS K cm xa q ρ ph w σ H) (e : H dd = some (.xd o)) : ¬ NN q ρ σ ph dd := fun z => by
  rcases z with z | z
  · obtain ⟨_, vs, y, k⟩ := h.env.tr dd z
    rw [e] at y; cases y
    rcases k with ⟨_, k⟩ | ⟨_, _, _, k⟩ <;> cases k
  · obtain ⟨vs, y⟩ := h.hand.tr z
    rw [e] at y; cases y
theorem StS.exc {i c : Nat} {ns : List Str} {xs : List FL.D} {a dd : Addr} {vs : List V} (h : StS K cm none q ρ ph w σ H) (e : H dd = some (.xd (ns.zip vs).reverse)) (l : ns.length = vs.length) (r : RepL K cm H (NN q ρ σ ph) ph xs vs) :
    StS K cm (some (a, c, dd)) q (ρ.set i (.exc c ns xs)) ph w (σ.set i (some (.ref a))) H :=
  StS.setv (fun _ z => by cases z) ⟨a, dd, vs, rfl, rfl, h.xd_new (a := a) e, e, l, r⟩ h.free
theorem own_wipe {a : Addr} : OwnS q.O0 (wipeX ρ) σ a → OwnS q.O0 ρ σ a := fun z => by
  rcases z with z | ⟨i, xs, e1, e2⟩
  · exact .inl z
  · unfold wipeX at e1
    rw [List.getElem?_map] at e1
    cases e : ρ[i]? with
    | none => rw [e] at e1; cases e1
    | some s =>
      rw [e] at e1
      cases s with
      | own ys => exact .inr ⟨i, ys, e, e2⟩
      | nest ys => cases e1
      | none => cases e1
      | val d => cases e1
      | exc c ns ds => cases e1
      | slf => cases e1
theorem wipe_own {i : Nat} {xs : List FL.D} (e1 : (wipeX ρ)[i]? = some (.own xs)) : ρ[i]? = some (.own xs) := by
  unfold wipeX at e1
  rw [List.getElem?_map] at e1
  cases e : ρ[i]? with
  | none => rw [e] at e1; cases e1
  | some s =>
    rw [e] at e1
    cases s with
    | own ys => cases e1; rfl
    | nest ys => cases e1
    | none => cases e1
    | val d => cases e1
    | exc c ns ds => cases e1
    | slf => cases e1
theorem wipe_nest {i : Nat} {xs : List FL.D} (e1 : (wipeX ρ)[i]? = some (.nest xs)) : ρ[i]? = some (.nest xs) := by
  unfold wipeX at e1
  rw [List.getElem?_map] at e1
  cases e : ρ[i]? with
  | none => rw [e] at e1; cases e1
  | some s =>
    rw [e] at e1
    cases s with
    | nest ys => cases e1; rfl
    | own ys => cases e1
    | none => cases e1
    | val d => cases e1
    | exc c ns ds => cases e1
    | slf => cases e1
theorem own_wipe2 {a : Addr} : OwnS q.O0 ρ σ a → OwnS q.O0 (wipeX ρ) σ a := fun z => by
  rcases z with z | ⟨i, xs, e1, e2⟩
  · exact .inl z
  · exact .inr ⟨i, xs, by unfold wipeX; rw [List.getElem?_map, e1]; rfl, e2⟩
theorem StS.wipe (h : StS K cm xa q ρ ph w σ H) : StS K cm none q (wipeX ρ) ph w σ H := by
  have kk : Keep H (NN q ρ σ ph) H (NN q (wipeX ρ) σ ph) := Keep.less (OO.mono fun _ => own_wipe)
  refine ⟨⟨by unfold wipeX; simp [h.env.len], fun i s x e1 e2 => ?_, h.env.tr.less fun _ => own_wipe⟩, h.hand.less fun _ => own_wipe, h.base, h.phs, h.o0, fun i j p xs ys e1 e2 => h.inj i j p xs ys (wipe_own e1) (wipe_own e2), fun i p xs e1 => h.fresh i p xs (wipe_own e1), fun i es v e1 => h.news i es v (wipe_nest e1)⟩
  unfold wipeX at e1
  rw [List.getElem?_map] at e1
  cases e : ρ[i]? with
  | none => rw [e] at e1; cases e1
  | some t =>
    rw [e] at e1
    have hh := h.env.at_ i t x e e2
    cases t with
    | none => cases e1; trivial
    | val d => cases e1; exact SlotR.keep (s := .val d) kk (fun _ e => e) (fun _ _ z => by cases z) hh
    | nest d => cases e1; exact SlotR.keep (s := .nest d) kk (fun _ e => e) (fun _ _ z => by cases z) hh
    | own ds =>
      cases e1
      exact SlotR.keep (s := .own ds) kk (fun _ e => e) (fun ds' p z ex o => ⟨own_wipe2 o, fun _ y => y⟩) hh
    | exc c ns ds => cases e1; trivial
    | slf => cases e1; trivial
end
section
variable {X : Cx} {c : Cfg} {q : Sq} {pos : Pos} {e : Expr} {fe : EF} {st : Stmt} {sts : List Stmt} {s t : SF}
end
end FL
namespace FL
open PySem
open L2 (V Hp HO Cx Inv VK XK TE TT TA TS TI TG PE PT PA PS PSs PI PG Ends WX RelV Vals Rd upd upd_same upd_ne ne_of_none EP TP AP OpR R2 CallR FnOk Room Binds)
section
variable {K : PySem.W.Frag} {mg : Str → Option Value} {h : Heap}
structure DefAt (K : PySem.W.Frag) (mg : Str → Option Value) (x : Str) (st : Stmt) (dvs : List V) (f : Addr) (fd : FuncData) : Prop where
  m : mg x = some (.ref f)
  F : L2.FunD K x x (L2.defArgs st) (L2.defBody st) (L2.defScope st) dvs [] f fd
end
end FL
namespace FL
open PySem
open L2 (V Hp HO Cx Inv VK XK TE TT TA TS TI TG PE PT PA PS PSs PI PG Ends WX RelV Vals Rd upd upd_same upd_ne ne_of_none EP TP AP OpR R2 CallR FnOk Room Binds)
theorem hu64 {k : Nat} {A : Around} (r : Room k A) : A.units + 64 < cLine := by have := r.un; omega
theorem bt_len : bootBuiltins "len" = some (.builtin "len") := by decide +kernel
theorem bt_abs : bootBuiltins "abs" = some (.builtin "abs") := by decide +kernel
theorem bt_int : bootBuiltins "int" = some (.type "int") := by decide +kernel
theorem bt_bool : bootBuiltins "bool" = some (.type "bool") := by decide +kernel
theorem bt_tuple : bootBuiltins "tuple" = some (.type "tuple") := by decide +kernel
theorem bt_list : bootBuiltins "list" = some (.type "list") := by decide +kernel
section
variable {P : Program} {w : World} {K : PySem.W.Frag} {mg : Str → Option Value} {base : Heap} {cm : Nat → Addr}
inductive Src where
  | p (i : Nat) | d (i : Nat) | k (i : Nat)
def pick {α : Type} (us its ws : List α) : List Src → List α
  | [] => []
  | .p i :: r => us[i]?.toList ++ pick us its ws r
  | .d i :: r => its[i]?.toList ++ pick us its ws r
  | .k i :: r => ws[i]?.toList ++ pick us its ws r
def HeldFn (K : PySem.W.Frag) (f : Addr) (fd : FuncData) : Prop := ∃ oc od osl, K.lookup f = some ⟨oc, od, .func fd, osl⟩
theorem HeldFn.one {f : Addr} {fd fd' : FuncData} (a : HeldFn K f fd) (b : HeldFn K f fd') : fd = fd' := by
  obtain ⟨_, _, _, e⟩ := a
  obtain ⟨_, _, _, e'⟩ := b
  rw [e] at e'
  cases e'
  rfl
theorem held_of {x qual : Str} {params : Arguments} {body : List Stmt} {scope : Scope} {dvs : List V} {kws : List (Str × V)} {f : Addr} {fd : FuncData} (F : L2.FunD K x qual params body scope dvs kws f fd) : HeldFn K f fd := by
  obtain ⟨a1, a2, a3, a4, a5, a6, a7, a8, a9, b1, efd, b3, _⟩ := F.ex
  exact ⟨_, _, _, b3⟩
theorem lk_of {x : Str} {f : Addr} {fd : FuncData} {k : Nat} {ps : List Str} {sp : L2.Sp} (hm : mg x = some (.ref f)) (hf : HeldFn K f fd) (G : FnOk P w K mg base (L2N.CX P w) k f fd ps sp) : ∀ f, mg x = some (.ref f) → ∀ fd, HeldFn K f fd → FnOk P w K mg base (L2N.CX P w) k f fd ps sp := fun f' h fd' h' => by
  rw [hm] at h
  cases h
  rw [← HeldFn.one hf h']
  exact G
structure Has (P : Program) (w : World) (K : PySem.W.Frag) (mg : Str → Option Value) (base : Heap) (cm : Nat → Addr) (x : Str) (lvl : Nat) (ps : List Str) (bs : List (List D)) (ksb : List (Nat × List Str × List Src × List D)) (n : Nat) (F : List D → M D) : Prop where
  ex : ∃ f fd, mg x = some (.ref f) ∧ PySem.W.keepIn K (.ref f) = true ∧ FnOk P w K mg base (L2N.CX P w) lvl f fd ps (spX K cm n F) ∧ (∀ dds, dds ∈ bs → ∃ ds dvs, Binds K fd ps ds ∧ Vals dvs ds ∧ ∀ {H N ph}, RepL K cm H N ph dds dvs) ∧
    ∀ e, e ∈ ksb → ∃ (its : List Value) (dvs : List V), Vals dvs its ∧ (∀ {H N ph}, RepL K cm H N ph e.2.2.2 dvs) ∧ L2.KBn K fd ps e.1 e.2.1 (fun us ws => pick us its ws e.2.2.1) (fun us ws => pick us dvs ws e.2.2.1)
  lk : ∀ f, mg x = some (.ref f) → ∀ fd, HeldFn K f fd → FnOk P w K mg base (L2N.CX P w) lvl f fd ps (spX K cm n F)
theorem pick_rel {us : List V} {us' : List Value} {its : List V} {its' : List Value} {ws : List V} {ws' : List Value} (h1 : Vals us us') (h2 : Vals its its') (h3 : Vals ws ws') : ∀ l, Vals (pick us its ws l) (pick us' its' ws' l) := by
  have key : ∀ {xs : List V} {ys : List Value} (h : Vals xs ys) (i : Nat), Vals xs[i]?.toList ys[i]?.toList := by
    intro xs ys h
    induction h with
    | nil => intro i; exact .nil
    | cons r _ ih => intro i; cases i with
      | zero => exact .cons r .nil
      | succ i => exact ih i
  intro l
  induction l with
  | nil => exact .nil
  | cons s r ih => cases s with
    | p i => exact (key h1 i).append ih
    | d i => exact (key h2 i).append ih
    | k i => exact (key h3 i).append ih
theorem has_of {x : Str} {st : Stmt} {N ps : List Str} {k m n : Nat} {b : SF} (hd : ∃ f fd, DefAt K mg x st [] f fd) (S : L2.FnScope N ps (L2.defScope st)) (hps : ps.length = m) (hN : N.length = n) (hmn : m ≤ n)
    (hb : ∀ (kV doc pm : Value) (an : Option Addr) (cdv ct : Value) (us : List Value), us.length = ps.length → bindArgs (PySem.W.fnOf x x (L2.defArgs st) (L2.defBody st) (L2.defScope st) .none kV doc pm an cdv ct) ⟨us, []⟩ = pure (ps.zip us))
    (body : ∀ (f : Addr) (cdv : Value) (A : Around) (outer : List PySem.Env) (s : Shared) (H : Hp) (E : XK) (q : Sq), Room k (A.deeper (PyProof.Rows.envOfC x (L2.defScope st) s.heap.objs.size f cdv)) →
      PSSX (L2.cxOf (L2N.CX P w) P w K mg base N x (L2.defScope st) f cdv A outer s H E) ⟨cm, none, fun cls d _ H' => E cls d H'⟩ q (L2.defBody st) b) :
    Has P w K mg base cm x (k + 1) ps [[]] [] m (callF n b) := by
  obtain ⟨f, fd, hm, F⟩ := hd
  subst hps hN
  have G := fn_ok F S hmn fun cdv A outer s H E q hr => body f cdv A outer s H E q hr
  exact ⟨⟨f, fd, hm, F.kp, G, fun dds hm => by
    rw [List.mem_singleton.mp hm]
    exact ⟨[], [], F.bindsN hb, .nil, RepL.nil⟩, fun e he => by cases he⟩, lk_of hm (held_of F) G⟩
theorem has_ofD {x : Str} {st : Stmt} {N ps : List Str} {dvs : List V} {dds : List D} {bs : List (List D)} {ksb : List (Nat × List Str × List Src × List D)} {k m n : Nat} {b : SF} (hd : ∃ f fd, DefAt K mg x st dvs f fd) (S : L2.FnScope N ps (L2.defScope st)) (hps : ps.length = m) (hN : N.length = n) (hmn : m ≤ n) (ne : dvs ≠ [])
    (hdd : ∀ {H N ph}, RepL K cm H N ph dds dvs)
    (hb : ∀ e, e ∈ bs → ∃ (p j : Nat), e = dds.drop j ∧ p + (dvs.length - j) = ps.length ∧ ∀ (T : Addr) (kV doc pm : Value) (an : Option Addr) (cdv ct : Value) (us its : List Value), us.length = p → its.length = dvs.length →
      ∃ r, bindArgs (PySem.W.fnOf x x (L2.defArgs st) (L2.defBody st) (L2.defScope st) (.ref T) kV doc pm an cdv ct) ⟨us, []⟩ = seqItems? (.ref T) >>= r ∧ r (some its.toArray) = pure (ps.zip (us ++ its.drop j)))
    (hkb : ∀ e, e ∈ ksb → e.2.2.2 = dds ∧ ∀ (T : Addr) (kV doc pm : Value) (an : Option Addr) (cdv ct : Value) (us its ws : List Value), us.length = e.1 → its.length = dvs.length → ws.length = e.2.1.length →
      ∃ r, bindArgs (PySem.W.fnOf x x (L2.defArgs st) (L2.defBody st) (L2.defScope st) (.ref T) kV doc pm an cdv ct) ⟨us, e.2.1.zip ws⟩ = seqItems? (.ref T) >>= r ∧ r (some its.toArray) = pure (ps.zip (pick us its ws e.2.2.1)))
    (body : ∀ (f : Addr) (cdv : Value) (A : Around) (outer : List PySem.Env) (s : Shared) (H : Hp) (E : XK) (q : Sq), Room k (A.deeper (PyProof.Rows.envOfC x (L2.defScope st) s.heap.objs.size f cdv)) →
      PSSX (L2.cxOf (L2N.CX P w) P w K mg base N x (L2.defScope st) f cdv A outer s H E) ⟨cm, none, fun cls d _ H' => E cls d H'⟩ q (L2.defBody st) b) :
    Has P w K mg base cm x (k + 1) ps bs ksb m (callF n b) := by
  obtain ⟨f, fd, hm, F⟩ := hd
  subst hps hN
  have G := fn_ok F S hmn fun cdv A outer s H E q hr => body f cdv A outer s H E q hr
  refine ⟨⟨f, fd, hm, F.kp, G, fun e he => ?_, fun e he => ?_⟩, lk_of hm (held_of F) G⟩
  · obtain ⟨p, j, rfl, hl, hq⟩ := hb e he
    obtain ⟨ds, r, hB⟩ := F.binds1 p j ne hl hq
    exact ⟨ds, dvs.drop j, hB, r, hdd.drop j⟩
  · obtain ⟨e1, hq⟩ := hkb e he
    obtain ⟨a1, a2, a3, a4, a5, a6, a7, a8, a9, b1, efd, b3, b4, b5, b6⟩ := F.ex
    rcases b5 with ⟨z, _⟩ | ⟨_, T, o, its, j, eT, lT, oT, rT⟩
    · exact absurd z ne
    · subst efd eT
      refine ⟨its, dvs, rT, by intros; rw [e1]; exact hdd, ⟨fun s us ws X l1 l2 => ?_, fun r1 r2 => pick_rel r1 rT r2 _⟩⟩
      obtain ⟨r, q1, q2⟩ := hq T a4 a5 a6 a7 a8 a9 us its ws l1 rT.length.symm l2
      refine L2.BindsTo.of_looks fun M => ?_
      rw [q1]
      exact L2.looks_items X lT oT (.of_pure q2)
theorem law_fin {st : Stmt} {k : Nat} {F : List D → M D} (hd : ∃ f fd, DefAt K mg "law" st [] f fd)
    (hb : ∀ (kV doc pm : Value) (an : Option Addr) (cdv ct : Value) (us : List Value), us.length = (["script"] : List Str).length → bindArgs (PySem.W.fnOf "law" "law" (L2.defArgs st) (L2.defBody st) (L2.defScope st) .none kV doc pm an cdv ct) ⟨us, []⟩ = pure ((["script"] : List Str).zip us))
    (G : ∀ base : Heap, Has P w K mg base cm "law" k ["script"] [[]] [] 1 F) : ∃ (cm : Nat → Addr) (f : Addr) (fd : FuncData), mg "law" = some (.ref f) ∧ (∀ (s : Shared) (u : Value), BindsTo s fd ⟨[u], []⟩ [("script", u)]) ∧
      ∀ base : Heap, K.In base → base.Ns mainGlobals mg → FnOk P w K mg base (L2N.CX P w) k f fd ["script"] (spX K cm 1 F) := by
  obtain ⟨f, fd, hm, Fd⟩ := hd
  exact ⟨cm, f, fd, hm, fun s u => Fd.bindsA hb s [u] rfl, fun base _ _ => (G base).lk f hm fd (held_of Fd)⟩
def ExcH (P : Program) (w : World) (K : PySem.W.Frag) (mg : Str → Option Value) (base : Heap) (x : Str) (C : Addr) (ns : List Str) : Prop := ∃ fI fd ps, ExcK K mg base P w x C fI fd ps ns
end
section
variable {X : Cx} {c : Cfg} {q : Sq} {pos : Pos} {e : Expr} {fe : EF} {es : List Expr} {fs : List EF}
theorem px_has {x : Str} {p : Pos} {k : Nat} {ps : List Str} {bs : List (List D)} {kb : List (Nat × List Str × List Src × List D)} {n : Nat} {F : List D → M D} (G : Has X.prog X.w X.K X.mg X.base c.cm x k ps bs kb n F) (hr : Room k X.A) (hx : L2N.Takes X c.Wx) (hg : L2.Gl X x) (ha : PAX X c (e :: es) fs)
    (hb : [] ∈ bs := by simp) (hn : fs.length = n := by rfl) (hdb : (x == ("__debug__" : Str)) = false := by decide) (he : starEach (e :: es) X.env = (false, eval e X.env) :: starEach es X.env := by rfl) (hpl : (backTo pos (starEach es X.env)).any (·.1) = false := by rfl) :
    PX X c (.Call (.Name x p) (e :: es) [] pos) (eCall F fs) := by
  obtain ⟨f, fd, hm, hk, hF, hB, _⟩ := G.ex
  obtain ⟨ds, dvs, b1, b2, b3⟩ := hB [] hb
  have h := px_call (p := p) (pos := pos) (dds := []) hF hr hx hg hm hk b1 b2 b3 ha (by simpa using hn) hdb he hpl
  have e0 : (fun ds => F (ds ++ [])) = F := by funext ds; rw [List.append_nil]
  rw [e0] at h
  exact h
theorem px_hasD {x : Str} {p : Pos} {k : Nat} {ps : List Str} {bs : List (List D)} {kb : List (Nat × List Str × List Src × List D)} {n : Nat} {F : List D → M D} (dds : List D) (G : Has X.prog X.w X.K X.mg X.base c.cm x k ps bs kb n F) (hr : Room k X.A) (hx : L2N.Takes X c.Wx) (hg : L2.Gl X x) (ha : PAX X c (e :: es) fs)
    (hb : dds ∈ bs := by simp) (hn : fs.length + dds.length = n := by rfl) (hdb : (x == ("__debug__" : Str)) = false := by decide) (he : starEach (e :: es) X.env = (false, eval e X.env) :: starEach es X.env := by rfl) (hpl : (backTo pos (starEach es X.env)).any (·.1) = false := by rfl) :
    PX X c (.Call (.Name x p) (e :: es) [] pos) (eCall (fun ds => F (ds ++ dds)) fs) := by
  obtain ⟨f, fd, hm, hk, hF, hB, _⟩ := G.ex
  obtain ⟨ds, dvs, b1, b2, b3⟩ := hB dds hb
  exact px_call hF hr hx hg hm hk b1 b2 b3 ha hn hdb he hpl
theorem psx_raiseH {x : Str} {p pos' : Pos} {C : Addr} {ns : List Str} (k : Nat) (G : ExcH X.prog X.w X.K X.mg X.base x C ns) (hC : c.cm k = C) (hc : X.calm = true) (tk : L2N.Takes X c.Wx) (hr : Room 2 X.A) (hg : L2.Gl X x)
    (ha : PAX X c (e :: es) fs) (hn : fs.length = ns.length := by rfl) (hl : ns.length ≤ 1000 := by decide) (hdb : (x == ("__debug__" : Str)) = false := by decide) (he : starEach (e :: es) X.env = (false, eval e X.env) :: starEach es X.env := by rfl) (hpl : (backTo pos (starEach es X.env)).any (·.1) = false := by rfl) :
    PSX X c q (.Raise (some (.Call (.Name x p) (e :: es) [] pos)) none pos') (sRaise k ns fs) := by
  obtain ⟨fI, fd, ps, G⟩ := G
  exact psx_raise k G hC hc tk hr hg ha hn hl hdb he hpl
theorem ptsx_nil : L2.PTs X [] (tTX X.K c.cm c.xa c.Wx tYes) := ⟨fun pins s σ H Q I ⟨O, ρ, ph, w, h⟩ => L2.pts_nil.run pins s σ H Q I (h.ret (b := true) rfl)⟩
end
theorem cx_end {P : Program} {w : World} {H : Hp} {s : Shared} {e : Value} {s' : Shared} (h : L2N.CX P w [] H s (fun _ _ _ => False) e s') : False := by
  obtain ⟨_, _, _, _, _, _, _, _, _, _, _, _, z⟩ := h
  exact z
theorem repl_ints {K : PySem.W.Frag} {cm : Nat → Addr} {H : Hp} {N : NS} {ph : Option Addr} : ∀ ns : List Int, RepL K cm H N ph (ns.map D.int) (ns.map V.int)
  | [] => RepL.nil
  | n :: ns => RepL.cons (by simp [Rep]) (repl_ints ns)
theorem sp_end {K : PySem.W.Frag} {cm : Nat → Addr} {n : Nat} {F : List D → M D} (plain : ∀ ns : List Int, ns.length ≤ n → ∃ w', F [.frz (ns.map D.int)] none = .ok (.bl true) w') (H : Hp) (a : Addr) (ns : List Int) (hl : ns.length ≤ n) (S : L2.SqL K H a (ns.map V.int)) :
    spX K cm 1 F [.ref a] H (fun v _ => v = .bl true) fun _ _ _ => False := by
  refine ⟨rfl, fun _ => False, [.frz (ns.map D.int)], none, none, fun _ z => z.elim, trivial, RepL.one ?_, ?_⟩
  · simp only [Rep]
    refine ⟨a, _, rfl, ?_, repl_ints ns⟩
    rcases S with S | S
    · exact .inl ⟨fun z => z.elim (fun y => y) (fun y => nomatch y), S⟩
    · exact .inr S
  · obtain ⟨w', e⟩ := plain ns hl
    rw [e]
    intro v H' ph' _ _ _ r
    exact bl_of r
end FL
namespace FL
open PySem
open L2 (V Hp HO Cx Inv VK XK TE TT TA TS TI TG PE PT PA PS PSs PI PG Ends WX RelV Vals Rd upd upd_same upd_ne ne_of_none EP TP AP OpR R2 CallR FnOk Room Binds)
def GTup (K : PySem.W.Frag) (mg : Str → Option Value) (x : Str) (i j : Int) : Prop := ∃ (a : Addr) (ti tj : Tok) (dd : Option Addr) (sl : Array (Option Value)), mg x = some (.ref a) ∧ K.lookup a = some ⟨.type "tuple", dd, .seq #[.int i ti, .int j tj] 0, sl⟩
section
variable {X : Cx} {c : Cfg} {q : Sq} {pos : Pos} {e : Expr} {fe : EF}
theorem px_gtupE {x : Str} {i j : Int} (hg : L2.Gl X x) (h : GTup X.K X.mg x i j) (hd : (x == ("__debug__" : Str)) = false := by decide) : PX X c (.Name x pos) (eC (.tup [.int i, .int j])) := by
  obtain ⟨a, ti, tj, dd, sl, h, hk⟩ := h
  exact px_gtup2 hg h hk hd
abbrev PTSX (X : Cx) (c : Cfg) (es : List Expr) (f : TF) : Prop := L2.PTs X es (tTX X.K c.cm c.xa c.Wx f)
theorem ptsx0 : PTSX X c [] tYes := ptsx_nil
theorem ptsx1 {t : TF} (h : PTX X c e t) : PTSX X c [e] t := L2.pts_one h
theorem pnx_lcE {elt tg iter : Expr} {ifs : List Expr} {scope : Scope} {own : List (Str × Nat)} {f : IF} {g : GF} {gt : TG} {is : List Nat} {t : TF} {fe : EF} (hc : X.calm = true) (hN : X.N.Nodup) (hi : PIX X c tg iter f) (ok : L2.BlkOk X.N X.env.scope scope own) (his : own.map (·.2) = is)
    (hg : ∀ (s : Shared) (H : Hp) (C : Addr) (cl : List (Str × Addr)) (fp : List Addr), PG (X.blk s H scope (compEnvC scope cl C X.env) fp) tg gt) (hG : TGX X.K c.cm g gt is)
    (ht : ∀ (s : Shared) (H : Hp) (C : Addr) (cl : List (Str × Addr)) (fp : List Addr), PTSX (X.blk s H scope (compEnvC scope cl C X.env) fp) ⟨c.cm, c.xa, noW⟩ ifs t)
    (he : ∀ (s : Shared) (H : Hp) (C : Addr) (cl : List (Str × Addr)) (fp : List Addr), PX (X.blk s H scope (compEnvC scope cl C X.env) fp) ⟨c.cm, c.xa, noW⟩ elt fe) (hs : ∀ x, foldedSetIterable iter X.env x = pure x := by intro _; rfl) :
    PNX X c (.ListComp elt [⟨tg, iter, ifs, 0⟩] scope pos) (nLc f is g t fe) := pnx_lc hc hN hi ok his hg hG ht he hs
theorem psx_appE (i : Nat) {x : Str} {p0 p1 p2 : Pos} (he : PX X c e fe) (hN : X.N[i]? = some x := by rfl) (hv : L2.Vis X.env.scope x := by first | exact Or.inl rfl | exact Or.inr (Or.inl rfl) | exact Or.inr (Or.inr rfl)) (hd : (x == ("__debug__" : Str)) = false := by decide)
    (hcd : (x == ("__classdict__" : Str)) = false := by decide) (hst : starEach (e :: []) X.env = (false, eval e X.env) :: starEach [] X.env := by rfl) (hs : swapsWith (.Call (.Attribute (.Name x p0) "append" p1) [e] [] p2) none pos.line X.env = pure false := by rfl)
    (hpl : (backTo p2 (starEach [] X.env)).any (·.1) = false := by rfl)
    (hw : ((backTo p2 (starEach [e] X.env)).all (fun x => !x.1) && (backToKw p2 (keywordEach [] X.env)).all (fun x => x.1.isSome) && decide ([e].length + ([] : List Keyword).length + (if ([] : List Keyword).isEmpty then 0 else 1) < 30)) = true := by rfl)
    (hl : (p1.endLine == p2.line) = true := by rfl) : PSX X c q (.Expr (.Call (.Attribute (.Name x p0) "append" p1) [e] [] p2) pos) (sApp i fe) :=
  psx_app i he hN hv hd hcd hst hs hpl (L2.pe_bm PySem.F.plainAttrs_list PySem.F.slot_list_append PySem.F.type_list_append L2.mt_append (L2.pe_var hN hv hd hcd) (L2.pa_cons he L2.pa_nil hst) (by rfl) hw hl hst hpl)
end
section
variable {K : PySem.W.Frag} {mg : Str → Option Value} {h : Heap} {P : Program} {w : World} {base : Heap}
end
end FL
namespace FL
open PySem
open L2 (V Hp HO Cx Inv VK XK TE TT TA TS TI TG PE PT PA PS PSs PI PG Ends WX RelV Vals Rd upd upd_same upd_ne ne_of_none EP TP AP OpR R2 CallR FnOk Room Binds)
mutual
def noLst : D → Bool
  | .non | .bl _ | .int _ | .str _ => true
  | .tup xs | .ins _ _ xs => noLstL xs
  | _ => false
def noLstL : List D → Bool
  | [] => true
  | x :: xs => noLst x && noLstL xs
end
mutual
def noHand : D → Bool
  | .hand => false
  | .tup xs | .lst xs | .frz xs | .ins _ _ xs => noHandL xs
  | _ => true
def noHandL : List D → Bool
  | [] => true
  | x :: xs => noHand x && noHandL xs
end
def borS : Slot → Slot
  | .val d => if noHand d = true then .val d else .none
  | .own xs => if noHandL xs = true then .val (.lst xs) else .none
  | .nest xs => if noHandL xs = true then .val (.lst xs) else .none
  | .exc c ns xs => if noHandL xs = true then .exc c ns xs else .none
  | .none | .slf => .none
def borE (ρ : Env) : Env := ρ.map borS
def eBor (e : EF) : EF := fun ρ w => match e (borE ρ) none with
  | .ok d none => if noLst d = true then .ok d w else .bad
  | .ex c ns xs none => if noLstL xs = true then .ex c ns xs w else .bad
  | _ => .bad
def tBor (t : TF) : TF := fun ρ w => match t (borE ρ) none with
  | .ok b none => .ok b w
  | .ex c ns xs none => if noLstL xs = true then .ex c ns xs w else .bad
  | _ => .bad
section
variable {K : PySem.W.Frag} {cm : Nat → Addr} {H H' : Hp} {N N' O : NS} {ph ph' : Option Addr}
mutual
theorem rep_noph (hN : ∀ a, N' a → N a) : ∀ (d : D) (v : V), noHand d = true → Rep K cm H N ph d v → Rep K cm H N' none d v
  | .non, _, _, h => by simpa [Rep] using h
  | .bl _, _, _, h => by simpa [Rep] using h
  | .int _, _, _, h => by simpa [Rep] using h
  | .str _, _, _, h => by simpa [Rep] using h
  | .tup ds, v, e, h => by
    simp only [Rep, noHand] at h e ⊢
    obtain ⟨a, vs, e1, t, r⟩ := h
    exact ⟨a, vs, e1, t.imp (fun z => ⟨fun q => z.1 (hN a q), z.2⟩) (fun z => z), repl_noph hN ds vs e r⟩
  | .lst ds, v, e, h => by
    simp only [Rep, noHand] at h e ⊢
    obtain ⟨a, vs, e1, ⟨n, t⟩, r⟩ := h
    exact ⟨a, vs, e1, ⟨fun q => n (hN a q), t⟩, repl_noph hN ds vs e r⟩
  | .frz ds, v, e, h => by
    simp only [Rep, noHand] at h e ⊢
    obtain ⟨a, vs, e1, t, r⟩ := h
    exact ⟨a, vs, e1, t.imp (fun z => ⟨fun q => z.1 (hN a q), z.2⟩) (fun z => z), repl_noph hN ds vs e r⟩
  | .ins c ns ds, v, e, h => by
    simp only [Rep, noHand] at h e ⊢
    obtain ⟨a, dx, vs, e1, n, t, l, r⟩ := h
    exact ⟨a, dx, vs, e1, fun q => n (hN a q), t, l, repl_noph hN ds vs e r⟩
  | .hand, v, e, _ => by simp [noHand] at e
theorem repl_noph (hN : ∀ a, N' a → N a) : ∀ (ds : List D) (vs : List V), noHandL ds = true → RepL K cm H N ph ds vs → RepL K cm H N' none ds vs
  | [], _, _, h => by simpa [RepL] using h
  | d :: ds, vs, e, h => by
    simp only [RepL, noHandL, Bool.and_eq_true] at h e ⊢
    obtain ⟨v, r, e1, h1, h2⟩ := h
    exact ⟨v, r, e1, rep_noph hN d v e.1 h1, repl_noph hN ds r e.2 h2⟩
end
mutual
theorem rep_nolst (hN : ∀ a, N' a → N a ∨ ∃ vs, H a = some (.lst vs)) : ∀ (d : D) (v : V), noLst d = true → Rep K cm H N ph d v → Rep K cm H N' ph' d v
  | .non, _, _, h => by simpa [Rep] using h
  | .bl _, _, _, h => by simpa [Rep] using h
  | .int _, _, _, h => by simpa [Rep] using h
  | .str _, _, _, h => by simpa [Rep] using h
  | .tup ds, v, e, h => by
    simp only [Rep, noLst] at h e ⊢
    obtain ⟨a, vs, e1, t, r⟩ := h
    refine ⟨a, vs, e1, t.imp (fun z => ⟨fun q => ?_, z.2⟩) (fun z => z), repl_nolst hN ds vs e r⟩
    rcases hN a q with q | ⟨us, y⟩
    · exact z.1 q
    · rcases z.2 with z | ⟨o, z⟩ <;> (rw [y] at z; cases z)
  | .lst _, _, e, _ => by simp [noLst] at e
  | .frz _, _, e, _ => by simp [noLst] at e
  | .ins c ns ds, v, e, h => by
    simp only [Rep, noLst] at h e ⊢
    obtain ⟨a, dx, vs, e1, n, t, l, r⟩ := h
    refine ⟨a, dx, vs, e1, fun q => ?_, t, l, repl_nolst hN ds vs e r⟩
    rcases hN a q with q | ⟨us, y⟩
    · exact n q
    · rw [y] at t; cases t
  | .hand, _, e, _ => by simp [noLst] at e
theorem repl_nolst (hN : ∀ a, N' a → N a ∨ ∃ vs, H a = some (.lst vs)) : ∀ (ds : List D) (vs : List V), noLstL ds = true → RepL K cm H N ph ds vs → RepL K cm H N' ph' ds vs
  | [], _, _, h => by simpa [RepL] using h
  | d :: ds, vs, e, h => by
    simp only [RepL, noLstL, Bool.and_eq_true] at h e ⊢
    obtain ⟨v, r, e1, h1, h2⟩ := h
    exact ⟨v, r, e1, rep_nolst hN d v e.1 h1, repl_nolst hN ds r e.2 h2⟩
end
def borO (O : NS) (ρ : Env) (σ : St) (ph : Option Addr) : NS := fun a => ph = some a ∨ (O a ∧ ∀ (j : Nat) xs, ρ[j]? = some (.own xs) → σ[j]? ≠ some (some (.ref a)))
variable {xa : Option (Addr × Nat × Addr)} {ρ : Env} {σ : St} {w : Wd}
theorem bor_sub : ∀ a, OO (borO O ρ σ ph) none a → OO O ph a := fun a z => by
  rcases z with (z | z) | z
  · exact .inr z
  · exact .inl z.1
  · cases z
theorem bor_env (he : EnvE K cm xa O H ph ρ σ) (hh : HandOk K cm H O ph w) : EnvE K cm xa (borO O ρ σ ph) H none (borE ρ) σ := by
  refine ⟨by unfold borE; simp [he.len], fun i s x e1 e2 => ?_, fun a z => ⟨fun q => (nomatch q), ?_⟩⟩
  · unfold borE at e1
    rw [List.getElem?_map] at e1
    cases e : ρ[i]? with
    | none => rw [e] at e1; cases e1
    | some t =>
      rw [e] at e1
      have hs := he.at_ i t x e e2
      cases t with
      | none => cases e1; trivial
      | val d =>
        by_cases hn : noHand d = true
        · have e3 : s = .val d := by simpa [borS, hn] using e1.symm
          subst e3
          obtain ⟨v, ev, r⟩ := hs
          exact ⟨v, ev, rep_noph bor_sub d v hn r⟩
        · have e3 : s = .none := by simpa [borS, hn] using e1.symm
          subst e3; trivial
      | nest ds =>
        by_cases hn : noHandL ds = true
        · have e3 : s = .val (.lst ds) := by simpa [borS, hn] using e1.symm
          subst e3
          obtain ⟨v, ev, r⟩ := hs
          exact ⟨v, ev, rep_noph bor_sub _ v hn r⟩
        · have e3 : s = .none := by simpa [borS, hn] using e1.symm
          subst e3; trivial
      | own ds =>
        by_cases hn : noHandL ds = true
        · have e3 : s = .val (.lst ds) := by simpa [borS, hn] using e1.symm
          subst e3
          obtain ⟨p, vs, ev, o, hp, r⟩ := hs
          refine ⟨.ref p, ev, ?_⟩
          simp only [Rep]
          refine ⟨p, vs, rfl, ⟨fun z => ?_, hp⟩, repl_noph bor_sub ds vs hn r⟩
          rcases z with (z | z) | z
          · exact (he.tr p o).1 z
          · exact z.2 i ds e (by rw [e2, ev])
          · cases z
        · have e3 : s = .none := by simpa [borS, hn] using e1.symm
          subst e3; trivial
      | slf => cases e1; trivial
      | exc c ns ds =>
        by_cases hn : noHandL ds = true
        · have e3 : s = .exc c ns ds := by simpa [borS, hn] using e1.symm
          subst e3
          obtain ⟨a, dd, vs, ev, hx, n, hd, l, r⟩ := hs
          exact ⟨a, dd, vs, ev, hx, fun q => n (bor_sub dd q), hd, l, repl_noph bor_sub ds vs hn r⟩
        · have e3 : s = .none := by simpa [borS, hn] using e1.symm
          subst e3; trivial
  · rcases z with z | z
    · obtain ⟨vs, k⟩ := hh.tr z
      exact ⟨_, k, .lst vs⟩
    · exact (he.tr a z.1).2
theorem bor_lists (he : EnvE K cm xa O H ph ρ σ) (x : Ext none H H') : ∀ a, OO O ph a → OO (borO O ρ σ ph) none a ∨ ∃ vs, H' a = some (.lst vs) := fun a z => by
  rcases z with z | z
  · by_cases c : ∃ (j : Nat) (xs : List D), ρ[j]? = some (.own xs) ∧ σ[j]? = some (some (.ref a))
    · obtain ⟨j, xs, c1, c2⟩ := c
      obtain ⟨p, vs, c3, _, c4, _⟩ := he.ownd c1
      rw [c2] at c3
      cases c3
      exact .inr ⟨vs, x a _ (fun q => by cases q) c4⟩
    · exact .inl (.inl (.inr ⟨z, fun j xs c1 c2 => c ⟨j, xs, c1, c2⟩⟩))
  · exact .inl (.inl (.inl z))
theorem bor_hand (hh : HandOk K cm H O ph w) (x : Ext none H H') : HandOk K cm H' O ph w :=
  hh.keep (Ext.keep (fun b o _ e => x b o (fun q => by cases q) e) .refl) fun p _ o e => x p o (fun q => by cases q) e
end
section
variable {X : Cx} {c : Cfg} {q : Sq} {pos : Pos} {e : Expr} {fe : EF}
theorem px_bor (h : PX X c e fe) : PX X c e (eBor fe) := PE.to h fun σ H Q ⟨O, ρ, ph, w, h⟩ => by
  refine ⟨borO O ρ σ ph, borE ρ, none, none, bor_env h.env h.hand, trivial, ?_⟩
  have hp := h.post
  unfold eBor at hp
  cases er : fe (borE ρ) none with
  | ok d w1 =>
    rw [er] at hp
    cases w1 with
    | some hs => exact (show False from hp).elim
    | none =>
      simp only at hp
      by_cases hn : noLst d = true
      · rw [if_pos hn] at hp
        intro v H' ph1 x s hk r
        cases ph1 with
        | some p => exact hk.elim
        | none => exact hp v H' ph (fun b o _ e => x b o (fun q => by cases q) e) .refl (bor_hand h.hand x) (rep_nolst (bor_lists h.env x) d v hn r)
      · rw [if_neg hn] at hp; exact (show False from hp).elim
  | ex k ns xs w1 =>
    rw [er] at hp
    cases w1 with
    | some hs => exact (show False from hp).elim
    | none =>
      simp only at hp
      by_cases hn : noLstL xs = true
      · rw [if_pos hn] at hp
        intro dd H' ph1 vs x s hk hd l r
        cases ph1 with
        | some p => exact hk.elim
        | none => exact hp dd H' ph vs (fun b o _ e => x b o (fun q => by cases q) e) .refl (bor_hand h.hand x) hd l (repl_nolst (bor_lists h.env x) xs vs hn r)
      · rw [if_neg hn] at hp; exact (show False from hp).elim
  | bad => rw [er] at hp; exact (show False from hp).elim
end
end FL
namespace FL
open PySem
open L2 (V Hp HO Cx Inv VK XK TE TT TA TS TI TG PE PT PA PS PSs PI PG Ends WX RelV Vals Rd upd upd_same upd_ne ne_of_none EP TP AP OpR R2 CallR FnOk Room Binds)
def mutK (i : Nat) (f : List D → List D → Option (List D)) (xs : List D) (ρ : Env) (ds : List D) (w : Wd) : SR := match f xs ds with
  | some ys => .nx (ρ.set i (.own ys)) w
  | none => .bad
def sMut (i : Nat) (f : List D → List D → Option (List D)) (es : List EF) : SF := fun ρ w => match ρ[i]? with
  | some (.own xs) => onE (evs es ρ) ρ w (mutK i f xs ρ)
  | _ => .bad
section
variable {K : PySem.W.Frag}
end
section
variable {X : Cx} {c : Cfg} {q : Sq} {pos : Pos} {e : Expr} {es : List Expr} {fs : List EF} {f : List FL.D → List FL.D → Option (List FL.D)} {r : V → List V → Hp → VK → Prop}
end
end FL
namespace FL
open PySem
open L2 (V Hp HO Cx Inv VK XK TE TT TA TS TI TG PE PT PA PS PSs PI PG Ends WX RelV Vals Rd upd upd_same upd_ne ne_of_none EP TP AP OpR R2 CallR FnOk Room Binds)
section
open PyProof PyProof.Rows
theorem enum1_meets {u : Value} {ob : Obj} {G : Heap → Prop} (B : Begins u ob G) :
    Meets (Builtin.«enumerate.__new__» ⟨[.type "enumerate", u], []⟩) fun _ R t => G t.heap ∧
      R (.ok (.ret (.ref (t.heap.push ob).objs.size))) { t with heap := (t.heap.push ob).push { cls := .type "enumerate", data := .fields #[.none, .bool false, .ref t.heap.objs.size, rawInt 0, .none, .none] } } :=
  .of_wp fun pr wo Ar R t hyp => by
    obtain ⟨hp, gs, dr, tk, os⟩ := t
    obtain ⟨g0, hyp⟩ := hyp
    have sub0 := sub_enumerate
    have it0 : ∀ {A' : Around} {E : Value → Shared → Prop} {Q : Value → Shared → Prop}, Q (.ref hp.objs.size) ⟨hp.push ob, gs, dr, tk, os⟩ → wpAny (model pr wo) A' (pyIter u) Q E ⟨hp, gs, dr, tk, os⟩ := fun q => B.iter pr wo _ _ ⟨hp, gs, dr, tk, os⟩ _ g0 q
    wp_walk using it0
    refine wpAny_stack_any fun stk => wpAny_pure ?_
    split
    · rename_i cc _ _ _ _ _
      cases (cc == Value.type "enumerate") <;> (wp_walk using it0; exact ⟨_, rfl, hyp⟩)
    · (wp_walk using it0; exact ⟨_, rfl, hyp⟩)
theorem enum1_call {prog : Program} {w : World} {A : Around} {E : Value → Shared → Prop} {s : Shared} {u : Value} {ob : Obj} {G : Heap → Prop} {Q : Value → Shared → Prop} (B : Begins u ob G) (g0 : G s.heap)
    (hyp : ∀ h', IsEnum h' (s.heap.objs.size + 1) s.heap.objs.size 0 .none → h'.get? s.heap.objs.size = some ob → (∀ b o, s.heap.get? b = some o → h'.get? b = some o) → Q (.ref (s.heap.objs.size + 1)) { s with heap := h' }) :
    wpAny (model prog w) A (call (.type "enumerate") [u]) Q E s := by
  refine callType_new F.called_enumerate (by decide) (F.typeCall_enumerate_1 _) (F.newCall_enumerate_1 _) (fun obj => F.args_object_init_2 obj _) F.entry_enumerate_new (enum1_meets B) ⟨g0, ?_⟩
  have sz : (s.heap.push ob).objs.size = s.heap.objs.size + 1 := Heap.size_push ..
  show _ ∧ _
  rw [sz]
  have en : IsEnum ((s.heap.push ob).push { cls := .type "enumerate", data := .fields #[.none, .bool false, .ref s.heap.objs.size, rawInt 0, .none, .none] }) (s.heap.objs.size + 1) s.heap.objs.size 0 .none := by
    have z := Heap.get?_push_size (s.heap.push ob) (o := { cls := .type "enumerate", data := .fields #[.none, .bool false, .ref s.heap.objs.size, rawInt 0, .none, .none] }) rfl
    rw [sz] at z
    exact z
  exact ⟨⟨_, en, rfl⟩, hyp _ en (Heap.get?_push_of_some _ (Heap.get?_push_size _ B.free)) fun b o z => Heap.get?_push_of_some _ (Heap.get?_push_of_some _ z)⟩
end
def ItE (K : PySem.W.Frag) (a : Addr) : L2.It :=
  ⟨fun i H => ∃ (xs : List V) (y : V), L2.SqT K H a xs ∧ xs[i]? = some y, fun i H v H' => ∃ T y, v = .ref T ∧ H T = none ∧ H' = upd H T (.tup [.int (i : Nat), y]) ∧ ∀ xs, L2.SqT K H a xs → xs[i]? = some y, fun i H => ∃ xs : List V, L2.SqT K H a xs ∧ xs.length ≤ i⟩
section
open PyProof PyProof.Rows L2
theorem walk_enumT {K : PySem.W.Frag} {a : Addr} {xs : List V} : Walk (ItE K a) xs.length (fun H => SqT K H a xs) (YPair (fun i => some (.int (i : Nat))) fun i => xs[i]?) := by
  refine ⟨fun i _ lt sq => ⟨xs, xs[i], sq, by simp [lt]⟩, fun _ sq => ⟨xs, sq, Nat.le_refl _⟩, fun i H v H' _ sq yl => ?_⟩
  obtain ⟨T, y, a1, a2, a3, a4⟩ := yl
  exact ⟨T, .int (i : Nat), y, a1, a2, a3, rfl, a4 xs sq⟩
theorem turn_enumT {P : Program} {w : World} {K : PySem.W.Frag} {elts : List Expr} {kk : Nat} {tpos : Pos} (a en ti : Addr) :
    Turn P w K (.Tuple elts kk tpos) (ItE K a) [en, ti] en fun i hp => (∃ old, IsEnum hp en ti ((i : Nat) : Int) old) ∧ hp.IsTupleIter ti a i ∧ en ≠ ti ∧ a ≠ ti where
  mem := List.mem_cons_self ..
  obj := fun i hp stt b mb => by
    obtain ⟨⟨old, isE⟩, ⟨o, ge, ce, de⟩, _⟩ := stt
    rcases List.mem_cons.mp mb with z | z
    · rw [z]
      exact ⟨_, isE, fun v q => nomatch q⟩
    · rw [List.mem_singleton.mp z]
      exact ⟨o, ge, fun v q => by rw [de] at q; cases q⟩
  keep := fun i hp hp' stt kp => ⟨⟨stt.1.choose, kp en (List.mem_cons_self ..) _ stt.1.choose_spec⟩, stt.2.1.at fun o q => kp ti (by simp) o q, stt.2.2⟩
  item := by
    intro X e1 e2 e3 cl i pins s σ H E Iv fps stt go
    subst e1 e2 e3
    obtain ⟨⟨old, isE⟩, isT, ne1, ne2⟩ := stt
    obtain ⟨xs, y, sq, gy⟩ := go
    obtain ⟨its, rv, tp, lz⟩ := Iv.tuple sq
    obtain ⟨u, gu, ru⟩ := rv.get gy
    have lt1 : en < s.heap.objs.size := Heap.lt_size isE
    have lt2 : ti < s.heap.objs.size := by obtain ⟨_, q, _⟩ := isT; exact Heap.lt_size q
    have tpl : s.heap.IsTuple a its.toArray := tp
    have ne3 : en ≠ a := fun z => by
      obtain ⟨o, q, qc, _⟩ := tpl
      rw [← z] at q
      have isE' := isE
      unfold IsEnum at isE'
      rw [isE'] at q
      cases q
      exact absurd (show (Value.type "enumerate") = .type "tuple" from qc) (by decide)
    have li : i < its.toArray.size := by
      have := (List.getElem?_eq_some_iff.mp gu).1
      simpa using this
    refine wpAny_pyNext_enum_itemC (Draws.tuple (show X.A.in1.handled = none from Iv.ok.hd cl) ti a ne2 its.toArray) isE ⟨isT, tpl⟩ li ne1 (by simp [ne1, ne3]) fun x h1 tk px out st1 gT szz kp => ?_
    have ex : x = u := by
      have : its[i]? = some x := by simpa using px
      rw [gu] at this
      exact (Option.some.inj this).symm
    subst ex
    refine ⟨_, rfl, wpAny_letOwnedTupleGo_enum (s := { s with heap := h1, toks := tk + 1 }) out fun h2 isE2 same => ?_⟩
    have gT2 : h2.get? s.heap.objs.size = some { cls := .type "tuple", data := .seq #[.int i tk, x] } := (same.2 _ (Nat.ne_of_gt lt1)).trans gT
    have nw : ObjOk X.prog X.w (upd H s.heap.objs.size (.tup [.int (i : Nat), y])) h2 s.heap.objs.size (.tup [.int (i : Nat), y]) := ⟨by show 2 ≤ sizeLine; decide, [.int i tk, x], .cons ⟨_, rfl⟩ (.cons ru .nil), ⟨_, gT2, rfl, _, rfl⟩⟩
    have I1 : Inv X pins σ (upd H s.heap.objs.size (.tup [.int (i : Nat), y])) { s with heap := h2, toks := tk + 1 } := Iv.turnedNew (ch := [en, ti]) (fun b o nb q => (same.2 b fun z => nb (by simp [z])).trans (kp b o (fun z => nb (by simp [z])) (fun z => nb (by simp [z])) q)) fps (Nat.le_refl _) nw
    refine ⟨.ref s.heap.objs.size, _, I1, rfl, ⟨_, y, rfl, Iv.hok.fresh (Nat.le_refl _), rfl, fun ys sy => by rw [Iv.tuple_inj sy sq]; exact gy⟩, ⟨⟨x, by rw [show ((i + 1 : Nat) : Int) = (i : Int) + 1 by omega]; exact isE2⟩, st1.1.at fun o q => (same.2 ti (Ne.symm ne1)).trans q, ne1, ne2⟩, fun b mb => ?_⟩
    have lb : b < s.heap.objs.size := by
      rcases List.mem_cons.mp mb with z | z
      · rw [z]; exact lt1
      · rw [List.mem_singleton.mp z]; exact lt2
    rw [upd_ne (Nat.ne_of_lt lb)]
    exact (fps b mb).1
  done := by
    intro X e1 e2 e3 cl i pins s σ H E Iv fps stt stp
    subst e1 e2 e3
    obtain ⟨⟨old, isE⟩, isT, ne1, ne2⟩ := stt
    obtain ⟨xs, sq, lx⟩ := stp
    obtain ⟨its, rv, tp, lz⟩ := Iv.tuple sq
    obtain ⟨f0, f1, f2, f3, f4, f5⟩ := fps ti (by simp)
    have ll := rv.length
    have tpl : s.heap.IsTuple a its.toArray := tp
    have hn : its.toArray[i]? = none := by simp; omega
    have hT : s.TypeIs (.ref en) "enumerate" := ⟨_, isE, rfl⟩
    unfold pyNext
    refine wpAny_bind (wpAny_attempt (wpAny_callSpecial?_slot (name := Str.ofString "__next__") hT F.slot_enumerate_next (wpAny_call_entry F.slot_enumerate_next hT F.entry_enumerate_next ?_ (F.args_enumerate_next_1 _))))
    show wpAny _ _ (field (.ref en) 2 >>= _) _ _ _
    refine wpAny_bind (wpAny_field isE rfl (x := .ref ti) rfl (wpAny_bind (wpAny_nextOf_tuple_end (show X.A.in1.handled = none from Iv.ok.hd cl) isT tpl hn fun h1 x1 eb xx => ?_)))
    obtain ⟨o, ge, ce⟩ := xx
    exact wpAny_bind (wpAny_isInstance (T := "StopIteration") (b := true) ⟨o, ge, ce⟩ isSubtype_stop (wpAny_pure ⟨rfl, Iv.turned (t' := s.toks) (fun b o nb q => eb b o nb q) f0 f1 f3 f4 f5⟩))
  self := fun A i s Q E stt q => wpAny_pyIter_enum stt.1.choose_spec q
end
end FL
namespace FL
open PySem
open L2 (It V Hp HO Cx Inv VK XK TE TT TA TS TI TG PE PT PA PS PSs PI PG Ends WX RelV Vals Rd upd upd_same upd_ne ne_of_none EP TP AP OpR R2 CallR FnOk Room Binds)
section
open PyProof PyProof.Rows
theorem pi_enumA {X : Cx} {e : Expr} {te : TE} {p pos tpos : Pos} {elts : List Expr} {kk : Nat} (hg : L2.Gl X "enumerate") (hm : X.mg "enumerate" = none) (he : PE X e te) (hst : starEach [e] X.env = [(false, eval e X.env)] := by rfl) (hs : starEach (e :: []) X.env = (false, eval e X.env) :: starEach [] X.env := by rfl) :
    PI X (.Tuple elts kk tpos) (.Call (.Name "enumerate" p) [e] [] pos) (fun σ H R => te σ H fun x H1 => ∃ a, x = .ref a ∧ ((∃ xs, L2.SqL X.K H1 a xs ∧ R (L2.Ite X.K a) H1) ∨ (∃ xs, L2.SqT X.K H1 a xs ∧ R (ItE X.K a) H1))) := by
  refine ⟨fun pins s σ H R I h => ?_⟩
  have ha : PA X [e] (fun σ H Q => te σ H fun x H1 => Q [x] H1) := PA.to (L2.pa_cons he L2.pa_nil hs) fun σ H Q z => z
  refine Call_ (L2.ld_blt I hg hm boot_enumerate (callWith_type1 (L2.thn (ha.run pos pins s σ H (fun vs H1 => match vs with | [x] => (∃ a, x = .ref a ∧ ((∃ xs, L2.SqL X.K H1 a xs ∧ R (L2.Ite X.K a) H1) ∨ (∃ xs, L2.SqT X.K H1 a xs ∧ R (ItE X.K a) H1))) | _ => False) I h) fun us t ⟨vs, H1, I1, r1, q1⟩ => ?_) hst rfl))
  have low : ∀ b, b = t.heap.objs.size + 1 ∨ b = t.heap.objs.size → t.heap.objs.size ≤ b := fun b z => by rcases z with z | z <;> omega
  cases r1 with
  | nil => exact False.elim q1
  | cons r rr =>
    cases rr with
    | cons _ _ => exact False.elim q1
    | nil =>
      obtain ⟨a, ex, q1⟩ := q1
      subst ex
      cases r
      rcases q1 with ⟨xs, sq, q⟩ | ⟨xs, sq, q⟩
      · obtain ⟨its, rv, pl, lz⟩ := I1.list sq
        refine enum1_call (begins_list a its.toArray) pl.isList fun h' en it kp => wpAny_pyIter_enum en ?_
        have it' : h'.IsListIter t.heap.objs.size a 0 := ⟨_, it, rfl, rfl⟩
        have I2 : Inv X pins σ H1 { t with heap := h' } := I1.kept (t' := t.toks) kp
        exact ⟨t.heap.objs.size + 1, [t.heap.objs.size + 1, t.heap.objs.size], _, _, H1, rfl, I2, L2.turn_enum a (t.heap.objs.size + 1) t.heap.objs.size, ⟨⟨.none, en⟩, it', Nat.succ_ne_self _⟩, fun b mb => I1.fpOk (low b (by simpa using mb)) (I1.hok.fresh (low b (by simpa using mb))), q⟩
      · obtain ⟨its, rv, pl, lz⟩ := I1.tuple sq
        have tpl : t.heap.IsTuple a its.toArray := pl
        refine enum1_call (begins_tuple a its.toArray) tpl fun h' en it kp => wpAny_pyIter_enum en ?_
        have it' : h'.IsTupleIter t.heap.objs.size a 0 := ⟨_, it, rfl, rfl⟩
        have lt : a < t.heap.objs.size := by obtain ⟨_, z, _⟩ := tpl; exact Heap.lt_size z
        have I2 : Inv X pins σ H1 { t with heap := h' } := I1.kept (t' := t.toks) kp
        exact ⟨t.heap.objs.size + 1, [t.heap.objs.size + 1, t.heap.objs.size], _, _, H1, rfl, I2, turn_enumT a (t.heap.objs.size + 1) t.heap.objs.size, ⟨⟨.none, en⟩, it', Nat.succ_ne_self _, Nat.ne_of_lt lt⟩, fun b mb => I1.fpOk (low b (by simpa using mb)) (I1.hok.fresh (low b (by simpa using mb))), q⟩
end
section
variable {K : PySem.W.Frag} {cm : Nat → Addr}
theorem feeds_enumT {a : Addr} {ds : List D} {vs : List V} : Feeds K cm (ItE K a) (enumL ds) (fun H N ph => TN K H N a vs ∧ RepL K cm H N ph ds vs) :=
  have el : (enumL ds).length = ds.length := by unfold enumL; simp
  ⟨fun h k m => ⟨h.1.keep k, h.2.keep k m ds vs⟩, fun H => L2.SqT K H a vs ∧ (enumL ds).length = vs.length, L2.YPair (fun i => some (.int (i : Nat))) (fun i => vs[i]?), ⟨fun i H hi h => by rw [h.2] at hi; exact (walk_enumT (K := K) (a := a) (xs := vs)).goes i H hi h.1, fun H h => by rw [h.2]; exact (walk_enumT (K := K) (a := a) (xs := vs)).stops H h.1, fun i H x H' hi h => by rw [h.2] at hi; exact (walk_enumT (K := K) (a := a) (xs := vs)).yields i H x H' hi h.1⟩,
    fun H N ph h => ⟨h.1.seq, el.trans h.2.length⟩, fun i d H N ph x H' h hn e y => by
      obtain ⟨T, x1, y1, rfl, hT, rfl, e1, e2⟩ := y
      obtain ⟨d1, e3, rfl⟩ := enumL_get e
      obtain ⟨v, e4, r⟩ := h.2.get e3
      have e2 : vs[i]? = some y1 := e2
      rw [e2] at e4; cases e4
      cases e1
      exact pair_new hn hT (by simp [Rep]) r⟩
variable {X : Cx} {c : Cfg}
theorem pix_enum {e : Expr} {fe : EF} {p pos tpos : Pos} {elts : List Expr} {kk : Nat} (hg : L2.Gl X "enumerate") (hm : X.mg "enumerate" = none) (he : PX X c e fe) (hst : starEach [e] X.env = [(false, eval e X.env)] := by rfl) (hs : starEach (e :: []) X.env = (false, eval e X.env) :: starEach [] X.env := by rfl) :
    PIX X c (.Tuple elts kk tpos) (.Call (.Name "enumerate" p) [e] [] pos) (iEnum fe) :=
  PI.to (pi_enumA hg hm he hst hs) fun σ H R ⟨O, ρ, ph, w, h⟩ => ⟨O, ρ, ph, w, (Run.bind (rel := relV X.K c.cm O) h).imp fun v H1 ⟨d, ph1, w1, e1, s1, r1, h1⟩ => by
    cases d with
    | lst ds =>
      obtain ⟨a, vs, rfl, ⟨n, t⟩, rl⟩ := lst_of r1
      exact ⟨a, rfl, .inl ⟨vs, .inl (.inl t), h1.ret (b := L2.Ite X.K a) ⟨_, ⟨.inl ⟨n, .inl t⟩, rl⟩, feeds_enum⟩⟩⟩
    | frz ds =>
      obtain ⟨a, vs, rfl, t, rl⟩ := frz_of r1
      exact ⟨a, rfl, .inl ⟨vs, t.seq, h1.ret (b := L2.Ite X.K a) ⟨_, ⟨t, rl⟩, feeds_enum⟩⟩⟩
    | tup ds =>
      obtain ⟨a, vs, rfl, t, rl⟩ := tup_of r1
      exact ⟨a, rfl, .inr ⟨vs, t.seq, h1.ret (b := ItE X.K a) ⟨_, ⟨t, rl⟩, feeds_enumT⟩⟩⟩
    | _ => exact h1.no⟩
end
end FL
namespace FL
open PySem
open L2 (It V Hp HO Cx Inv VK XK TE TT TA TS TI TG PE PT PA PS PSs PI PG Ends WX RelV Vals Rd upd upd_same upd_ne ne_of_none EP TP AP OpR R2 CallR FnOk Room Binds)
section
variable {X : Cx} {c : Cfg} {q : Sq}
theorem own_tail {D : Ends} {ρ : Env} {σ : St} {H1 : Hp} {ph1 : Option Addr} {w1 : Wd} {i : Nat} {ds : List FL.D} {vs : List V} {p : Addr} (h1 : StS X.K c.cm c.xa q ρ ph1 w1 σ H1) (r : RepL X.K c.cm H1 (NN q ρ σ ph1) ph1 ds vs) (hpn : H1 p = none)
    (hp1 : Post2 X.K c.cm c.xa q c.Wx D H1 (NN q ρ σ ph1) ph1 (.nx (ρ.set i (.own ds)) w1)) : D.nx (σ.set i (some (.ref p))) (upd H1 p (.lst vs)) := by
  by_cases hl : i < ρ.length
  · obtain ⟨h2, k2⟩ := h1.seto hl hpn r
    exact hp1 _ _ ph1 h2 k2.kp
  · have e1 : ρ.set i (.own ds) = ρ := List.set_eq_of_length_le (by omega)
    have e2 : σ.set i (some (.ref p)) = σ := List.set_eq_of_length_le (by rw [h1.env.len]; omega)
    rw [e1] at hp1
    rw [e2]
    exact hp1 σ _ ph1 (h1.ext (ext_new hpn) .refl (h1.hand.new hpn)) (Ext.keep (ext_new hpn) .refl).kp
section
variable {i : Nat} {y : Str} {py : Pos} {elt tg iter : Expr} {ifs : List Expr} {scope : Scope} {own : List (Str × Nat)} {pos spos : Pos} {f : IF} {g : GF} {gt : TG} {is : List Nat} {t : TF} {fe : EF}
theorem psx_setLc (hc : X.calm = true) (hN : X.N.Nodup) (hy : X.N[i]? = some y) (hyl : X.env.scope.names.lookup y = some .local) (hsw : swapsWith (.ListComp elt [⟨tg, iter, ifs, 0⟩] scope pos) (some (.Name y py)) spos.line X.env = pure true)
    (hi : PIX X c tg iter f) (ok : L2.BlkOk X.N X.env.scope scope own) (his : own.map (·.2) = is) (hg : ∀ (s : Shared) (H : Hp) (C : Addr) (cl : List (Str × Addr)) (fp : List Addr), PG (X.blk s H scope (compEnvC scope cl C X.env) fp) tg gt) (hG : TGX X.K c.cm g gt is)
    (ht : ∀ (s : Shared) (H : Hp) (C : Addr) (cl : List (Str × Addr)) (fp : List Addr), PTSX (X.blk s H scope (compEnvC scope cl C X.env) fp) ⟨c.cm, c.xa, noW⟩ ifs t)
    (he : ∀ (s : Shared) (H : Hp) (C : Addr) (cl : List (Str × Addr)) (fp : List Addr), PX (X.blk s H scope (compEnvC scope cl C X.env) fp) ⟨c.cm, c.xa, noW⟩ elt fe) (hs : ∀ x, foldedSetIterable iter X.env x = pure x := by intro _; rfl) :
    PSX X c q (.Assign [.Name y py] (.ListComp elt [⟨tg, iter, ifs, 0⟩] scope pos) spos) (sSet i (eNew (nLc f is g t fe))) :=
  PS.to (L2.ps_setLc hc hN hy hyl hsw hi ok hg ht he hs) fun D σ H ⟨ρ, ph, w, h, hp⟩ => by
    have rr := (onE_run (rel := relV X.K c.cm (OwnS q.O0 ρ σ)) h hp)
    have r2 : Run X.K c.cm c.xa (OwnS q.O0 ρ σ) (relV X.K c.cm (OwnS q.O0 ρ σ)) c.Wx ρ σ ph H w (M.bind (nLc f is g t fe ρ) fun xs => M.ret (.lst xs)) _ := rr
    refine lc_read his hG σ H _ ⟨_, ρ, ph, w, (Run.bind (rel := relL X.K c.cm (OwnS q.O0 ρ σ)) r2).imp fun vs H1 ⟨ds, ph1, w1, e1, s1, r1, h1⟩ p hpn => ?_⟩
    obtain ⟨d, ph2, w2, r, h2, k, hp2⟩ := h1.lst hpn r1
    exact hp2 _ _ ph2 (h2.setd r) (keep_set fun _ z => by cases z).kp
end
end
end FL
namespace FL
open PySem
open L2 (V Hp HO Cx Inv VK XK TE TT TA TS TI TG PE PT PA PS PSs PI PG Ends WX RelV Vals Rd upd upd_same upd_ne ne_of_none EP TP AP OpR R2 CallR FnOk Room Binds)
section
open PySem.Spec PyProof.Rows
variable {P : Program} {w : World} {K : PySem.W.Frag} {mg : Str → Option Value} {base : Heap} {cm : Nat → Addr}
structure TopOk (P : Program) (w : World) (K : PySem.W.Frag) (mg : Str → Option Value) (base : Heap) (f : Addr) (fd : FuncData) (x : Str) (sp : L2.Sp) : Prop where
  go : ∀ (t : Shared) (G : Hp) (z : Value) (y : V) (R : VK) (B : XK), L2.Env0 P w K mg base callerA [] t G → BindsTo t fd ⟨[z], []⟩ [(x, z)] → RelV y z → sp [y] G R B →
    codeAny (model P w) callerA (.call (.ref f) ⟨[z], []⟩) (L2.CR (L2N.CX P w) [] P w G t R B) t
end
section
open PySem.Spec PySem.W PySem.Calls PyProof.Rows
variable {P : Program} {w : World} {K : PySem.W.Frag} {mg mb : Str → Option Value} {f a : Addr} {fd : FuncData} {x : Str} {sp : L2.Sp} {t : Shared} {us : List Value} {ms : List Int}
structure Scr (K : PySem.W.Frag) (t : Shared) (a : Addr) (us : List Value) (ms : List Int) (P : Program) (w : World) (G : Hp) : Prop where
  few : L2.Only G
  seq : L2.SqL K G a (ms.map V.int)
  ok : L2.HOk P w G t.heap
  at_ : ∀ b, G b ≠ none → b = a
  off : G a ≠ none → K.lookup a = none
end
end FL
namespace FL
open PySem
open L2 (V Hp HO Cx Inv VK XK TE TT TA TS TI TG PE PT PA PS PSs PI PG Ends WX RelV Vals Rd upd upd_same upd_ne ne_of_none EP TP AP OpR R2 CallR FnOk Room Binds)
structure MkQ where
  B : Hp
  O0 : NS
  ph0 : Option Addr
  a : Addr
  dx : Addr
  C : Addr
def MkQ.H (q : MkQ) : Hp := upd (upd q.B q.dx (.own q.a)) q.a (.ins q.C q.dx [])
def MkQ.sq (q : MkQ) : Sq := ⟨q.H, fun b => q.O0 b ∨ b = q.a, q.ph0⟩
structure MkQ.Ok (K : PySem.W.Frag) (cm : Nat → Addr) (q : MkQ) : Prop where
  ha : q.B q.a = none
  hd : q.B q.dx = none
  ne : q.dx ≠ q.a
  tr : OTr q.B q.O0 q.ph0
  nph : q.ph0 ≠ some q.a
def stepN (b : SF) (es : List EF) (ρ : Env) (w : Wd) : R (List D) := match b ρ w with
  | .nx ρ' w' => match ρ'[0]? with
    | some FL.Slot.slf => evs es ρ' w'
    | _ => .bad
  | .ex c ns xs _ w' => .ex c ns xs w'
  | _ => .bad
def initF (n : Nat) (b : SF) (es : List EF) (ds : List D) : M (List D) := fun w => stepN b es (FL.Slot.slf :: (vals ds ++ List.replicate (n - ds.length - 1) .none)) w
section
variable (K : PySem.W.Frag) (cm : Nat → Addr) (xa : Option (Addr × Nat × Addr)) (q : MkQ) (ns : List Str)
def PostN (Wx : WX) (D : Ends) : R (List FL.D) → Prop
  | .ok xs w' => ∀ σ H' ph' vs, Ext q.ph0 q.B H' → PhS q.B q.ph0 ph' → HandOk K cm H' q.O0 ph' w' → H' q.a = some (.ins q.C q.dx (ns.zip vs)) → ns.length = vs.length → RepL K cm H' (OO q.O0 ph') ph' xs vs → D.nx σ H'
  | .ex c es xs w' => ∀ σ H' ph' dd vs, Ext q.ph0 q.B H' → PhS q.B q.ph0 ph' → HandOk K cm H' q.O0 ph' w' → H' dd = some (.xd (es.zip vs).reverse) → es.length = vs.length → RepL K cm H' (OO q.O0 ph') ph' xs vs → Wx (.ref (cm c)) (some dd) σ H'
  | .bad => False
def tSt (Wx : WX) (n0 : List Str) (es : List EF) : TS := fun D σ H => ∃ O1 ρ ph w xs vs, EnvE K cm xa O1 H ph ρ σ ∧ HandOk K cm H O1 ph w ∧ (∀ b, q.O0 b → O1 b) ∧ O1 q.a ∧ q.B q.a = none ∧ Ext q.ph0 q.B H ∧ PhS q.B q.ph0 ph ∧ H q.a = some (.ins q.C q.dx (n0.zip vs)) ∧
  n0.length = vs.length ∧ RepL K cm H (OO O1 ph) ph xs vs ∧ σ[0]? = some (some (.ref q.a)) ∧ PostN K cm q ns Wx D (M.bind (evs es ρ) (fun ys => M.ret (xs ++ ys)) w)
def tPre (Wx : WX) (b : SF) (es : List EF) : TS := fun D σ H => ∃ ρ ph w, StS K cm xa q.sq ρ ph w σ H ∧ PostN K cm q ns Wx D (stepN b es ρ w)
end
section
variable {K : PySem.W.Frag} {cm : Nat → Addr} {q : MkQ} {H H' : Hp} {ph ph' : Option Addr}
theorem MkQ.base (ok : q.Ok K cm) : Ext q.ph0 q.B q.H := fun b o n e => by
  unfold MkQ.H
  rw [upd_ne (ne_of_none e ok.ha), upd_ne (ne_of_none e ok.hd)]; exact e
theorem MkQ.at_ : q.H q.a = some (.ins q.C q.dx []) := upd_same
theorem MkQ.phs (h : PhS q.H q.ph0 ph') : PhS q.B q.ph0 ph' := by
  rcases h with h | ⟨h, p, e, n⟩
  · exact .inl h
  · refine .inr ⟨h, p, e, ?_⟩
    unfold MkQ.H at n
    by_cases z : p = q.a
    · rw [z, upd_same] at n; cases n
    · rw [upd_ne z] at n
      by_cases y : p = q.dx
      · rw [y, upd_same] at n; cases n
      · rwa [upd_ne y] at n
theorem MkQ.ext (ok : q.Ok K cm) (h : Ext q.ph0 q.H H') : Ext q.ph0 q.B H' := fun b o n e => h b o n (MkQ.base ok b o n e)
theorem bind_at {α β : Type} {m : M α} {f : α → M β} {w w1 : Wd} {a : α} (h : m w = .ok a w1) : M.bind m f w = f a w1 := by
  unfold M.bind
  rw [h]
theorem zip_snoc {α β : Type} : ∀ (a : List α) (b : List β) (x : α) (y : β), a.length = b.length → (a ++ [x]).zip (b ++ [y]) = a.zip b ++ [(x, y)]
  | [], [], _, _, _ => rfl
  | a :: as, b :: bs, x, y, h => by
    simp only [List.cons_append, List.zip_cons_cons]
    rw [zip_snoc as bs x y (by simpa using h)]
  | [], _ :: _, _, _, h => by simp at h
  | _ :: _, [], _, _, h => by simp at h
theorem putF_new {f : Str} {v : V} : ∀ (n0 : List Str) (vs : List V), f ∉ n0 → L2.putF f v (n0.zip vs) = n0.zip vs ++ [(f, v)]
  | [], _, _ => rfl
  | _ :: _, [], _ => rfl
  | n :: n0, x :: vs, h => by
    simp only [List.zip_cons_cons, L2.putF]
    rw [if_neg (fun z => h (by rw [z]; exact List.mem_cons_self ..)), putF_new n0 vs fun z => h (List.mem_cons_of_mem _ z)]
    rfl
end
section
variable {X : Cx} {c : Cfg} {q : MkQ} {ns : List Str} {pos : Pos} {e : Expr} {fe : EF} {es : List EF} {st : Stmt} {rest : List Stmt} {s b : SF}
theorem pin_nil (Wx : WX) : PSs X [] (tSt X.K c.cm c.xa q ns Wx ns []) := PSs.to L2.pss_nil fun D σ H ⟨O1, ρ, ph, w, xs, vs, env, hand, sub, own, hB, base, phs, obj, len, rep, sl, post⟩ => by
  have post : PostN X.K c.cm q ns Wx D (.ok (xs ++ []) w) := post
  rw [List.append_nil] at post
  exact post σ H ph vs base phs (hand.less sub) obj len (rep.keep (Keep.less (OO.mono sub)) (fun _ e => e) xs vs)
theorem pin_store {n0 : List Str} {f slf : Str} {p p' : Pos} (hN : X.N[0]? = some slf) (hv : L2.Vis X.env.scope slf) (hd1 : (slf == ("__debug__" : Str)) = false) (hd2 : (slf == ("__classdict__" : Str)) = false) (cl : L2.Cls X.K q.C) (na : L2.NoAttr X.K q.C f) (hf : f ∉ n0) (hl : n0.length < 1000)
    (he : PX X c e fe) (hs : swapsWith e (some (.Attribute (.Name slf p) f p')) pos.line X.env = pure false) (h2 : PSs X rest (tSt X.K c.cm c.xa q ns c.Wx (n0 ++ [f]) es)) :
    PSs X (.Assign [.Attribute (.Name slf p) f p'] e pos :: rest) (tSt X.K c.cm c.xa q ns c.Wx n0 (fe :: es)) := by
  refine PSs.to (L2.pss_cons (L2.ps_fld (L2.pe_var (i := 0) hN hv hd1 hd2) he hs) h2) fun D σ H ⟨O1, ρ, ph, w, xs, vs, env, hand, sub, own, hB, base, phs, obj, len, rep, sl, post⟩ => ?_
  refine ⟨O1, ρ, ph, w, env, hand, ?_⟩
  have post : PostN X.K c.cm q ns c.Wx D (M.bind (M.bind (fe ρ) fun x => M.bind (evs es ρ) fun ys => M.ret (x :: ys)) (fun ys => M.ret (xs ++ ys)) w) := post
  have nph : ph ≠ some q.a := (env.tr q.a own).1
  cases ev : fe ρ w with
  | bad =>
    simp only [M.bind, ev] at post
    exact post
  | ex k es2 zs w1 =>
    simp only [M.bind, ev] at post
    intro dd H1 ph1 vs1 x sphs hk hd l r
    exact post σ H1 ph1 dd vs1 (base.trans phs x) (PhS.trans base phs sphs) (hk.less sub) hd l (r.keep (Keep.less (OO.mono sub)) (fun _ e => e) zs vs1)
  | ok d w1 =>
    intro v H1 ph1 x sphs hk r
    have obj1 : H1 q.a = some (.ins q.C q.dx (n0.zip vs)) := x _ _ nph obj
    have env1 := env.ext x sphs
    have nph1 : ph1 ≠ some q.a := (env1.tr q.a own).1
    have rep1 := rep.keep (Ext.keep x sphs) sphs.m xs vs
    refine ⟨.ref q.a, sl, q.a, q.C, q.dx, n0.zip vs, rfl, obj1, cl, na, by rw [List.length_zip]; omega, ?_⟩
    rw [putF_new n0 vs hf, ← zip_snoc n0 vs f v len]
    have kk : Keep H1 (OO O1 ph1) (upd H1 q.a (.ins q.C q.dx ((n0 ++ [f]).zip (vs ++ [v])))) (OO O1 ph1) := ⟨fun b o n e => by rw [upd_ne (fun z => n (.inl (by rw [z]; exact own)))]; exact e, fun b o _ n => n⟩
    have ne_q : ∀ (b : Addr) (o : HO), q.B b = some o → b ≠ q.a := fun b o e z => by rw [z, hB] at e; cases e
    have base1 : Ext q.ph0 q.B H1 := base.trans phs x
    refine ⟨O1, ρ, ph1, w1, xs ++ [d], vs ++ [v], ⟨env1.len, fun i t y e1 e2 => (env1.at_ i t y e1 e2).keep kk (fun _ e => e) fun ds p ht hy o => ⟨o, fun u z => ?_⟩, fun b o => ?_⟩, hk.keep kk fun p e u z => ?_, sub, own, hB, fun b o n e => ?_, PhS.trans base phs sphs, upd_same, ?_, ?_, sl, ?_⟩
    · obtain ⟨p2, vs2, y1, _, y2, _⟩ := env1.ownd (e1.trans (by rw [ht]))
      rw [upd_ne (fun z2 => ?_)]
      · exact z
      · rw [e2, hy] at y1
        cases y1
        rw [z2, obj1] at y2
        cases y2
    · obtain ⟨y, u, z, k⟩ := env1.tr b o
      refine ⟨y, ?_⟩
      by_cases z2 : b = q.a
      · rw [z2]; exact ⟨_, upd_same, .inr ⟨_, _, _, rfl⟩⟩
      · exact ⟨u, by rw [upd_ne z2]; exact z, k⟩
    · rw [upd_ne (fun z2 => nph1 (by rw [← z2]; exact e))]; exact z
    · rw [upd_ne (ne_q b o e)]; exact base1 b o n e
    · rw [List.length_append, List.length_append, len]; rfl
    · exact (RepL.append rep1 (RepL.one r)).keep kk (fun _ e => e) _ _
    · have e3 : M.bind (M.bind (fe ρ) fun x => M.bind (evs es ρ) fun ys => M.ret (x :: ys)) (fun ys => M.ret (xs ++ ys)) w = M.bind (evs es ρ) (fun ys => M.ret (xs ++ [d] ++ ys)) w1 := by
        simp only [bind_bind, ret_bind, List.append_assoc, List.cons_append, List.nil_append]
        exact bind_at ev
      rw [e3] at post
      exact post
theorem pin_end (hq : q.Ok X.K c.cm) (hxa : c.xa = some (q.a, 0, q.dx)) (h : PSs X rest (tSt X.K c.cm c.xa q ns c.Wx [] es)) : PSs X rest (tPre X.K c.cm c.xa q ns c.Wx sNext es) := by
  refine PSs.to h fun D σ H ⟨ρ, ph, w, S, post⟩ => ?_
  have post : PostN X.K c.cm q ns c.Wx D (match ρ[0]? with | some FL.Slot.slf => evs es ρ w | _ => .bad) := post
  cases e0 : ρ[0]? with
  | none => rw [e0] at post; exact (show False from post).elim
  | some t =>
    rw [e0] at post
    cases t with
    | slf =>
      have hi : 0 < σ.length := by rw [S.env.len]; exact (List.getElem?_eq_some_iff.mp e0).1
      obtain ⟨a, k, dd, y1, y2⟩ := S.env.at_ 0 _ σ[0] e0 (List.getElem?_eq_getElem hi)
      rw [hxa] at y2
      cases y2
      have oa : OwnS q.sq.O0 ρ σ q.a := .inl (.inr rfl)
      refine ⟨_, ρ, ph, w, [], [], S.env, S.hand, fun b o => .inl (.inl o), oa, hq.ha, MkQ.ext hq S.base, MkQ.phs S.phs, S.base _ _ hq.nph MkQ.at_, rfl, RepL.nil, by rw [List.getElem?_eq_getElem hi, y1], ?_⟩
      have e4 : M.bind (evs es ρ) (fun ys => M.ret ([] ++ ys)) = evs es ρ := by
        have : (fun ys : List FL.D => M.ret ([] ++ ys)) = M.ret := by funext ys; rw [List.nil_append]
        rw [this, bind_ret]
      rw [e4]
      exact post
    | none => exact (show False from post).elim
    | val d => exact (show False from post).elim
    | own xs => exact (show False from post).elim
    | nest xs => exact (show False from post).elim
    | exc k n xs => exact (show False from post).elim
end
end FL
namespace FLQ
open PySem PySem.SeqAt
open AutoSeq1 (wpAny_loadPart')
open MeetsSeq MeetsSeq2 MeetsSeq3 SeqRoads2
section
variable {prog : Program} {w : World} {A : Around} {R : Result → Shared → Prop}
structure Two (s : Shared) (l b : Addr) (m : Nat) (xs ys : Array Value) : Prop where
  one : ∃ n, s.heap.get? l = some { cls := .type "list", data := .seq xs n }
  two : ∃ n, s.heap.get? b = some { cls := .type "list", data := .seq ys n }
  sx : xs.size = m
  sy : ys.size = m
end
section
variable {prog : Program} {w : World} {A : Around} {E : Value → Shared → Prop} {t : Shared}
end
end FLQ
namespace FLQ
open PySem PySem.SeqAt
open AutoSeq1 (wpAny_loadPart')
open MeetsSeq MeetsSeq2 MeetsSeq3 SeqRoads2
section
variable {prog : Program} {w : World} {A : Around} {R : Result → Shared → Prop}
end
section
variable {prog : Program} {w : World} {A : Around} {E : Value → Shared → Prop} {t : Shared}
end
end FLQ
namespace FL
open PySem
open L2 (V Hp HO Cx Inv VK XK TE TT TA TS TI TG PE PT PA PS PSs PI PG Ends WX RelV Vals Rd upd upd_same upd_ne ne_of_none EP TP AP OpR R2 CallR FnOk Room Binds)
abbrev Tab := Nat → Option (List D → M D)
mutual
def solid (T : Tab) : D → Bool
  | .frz _ | .hand => false
  | .tup xs | .lst xs => solidL T xs
  | .ins k _ xs => (T k).isSome && solidL T xs
  | _ => true
def solidL (T : Tab) : List D → Bool
  | [] => true
  | x :: xs => solid T x && solidL T xs
end
section
variable {X : Cx} {cm : Nat → Addr} {T : Tab} {pins : List (Addr × Obj)} {σ : St} {H : Hp} {s : Shared} {N O : NS} {ph : Option Addr} {w : Wd}
theorem k_free (I : Inv X pins σ H s) {a : Addr} {o : Obj} (h : X.K.lookup a = some o) : H a = none := (I.bs a o (I.ok.mod.kin a o h)).2
mutual
theorem rep_inj (I : Inv X pins σ H s) (inj : ∀ i j, (T i).isSome = true → (T j).isSome = true → cm i = cm j → i = j) : ∀ (d e : D) (v : V), solid T d = true → solid T e = true → Rep X.K cm H N ph d v → Rep X.K cm H N ph e v → d = e
  | .non, e, v, _, h2, r1, r2 => by
    cases non_of r1
    cases e with
    | non => rfl
    | bl b => cases bl_of r2
    | int b => cases int_of r2
    | str b => cases str_of r2
    | tup b => obtain ⟨_, _, z, _⟩ := tup_of r2; cases z
    | lst b => obtain ⟨_, _, z, _⟩ := lst_of r2; cases z
    | frz b => simp [solid] at h2
    | hand => simp [solid] at h2
    | ins k ns b => simp only [Rep] at r2; obtain ⟨_, _, _, z, _⟩ := r2; cases z
  | .bl c, e, v, _, h2, r1, r2 => by
    cases bl_of r1
    cases e with
    | non => cases non_of r2
    | bl b => cases bl_of r2; rfl
    | int b => cases int_of r2
    | str b => cases str_of r2
    | tup b => obtain ⟨_, _, z, _⟩ := tup_of r2; cases z
    | lst b => obtain ⟨_, _, z, _⟩ := lst_of r2; cases z
    | frz b => simp [solid] at h2
    | hand => simp [solid] at h2
    | ins k ns b => simp only [Rep] at r2; obtain ⟨_, _, _, z, _⟩ := r2; cases z
  | .int c, e, v, _, h2, r1, r2 => by
    cases int_of r1
    cases e with
    | non => cases non_of r2
    | bl b => cases bl_of r2
    | int b => cases int_of r2; rfl
    | str b => cases str_of r2
    | tup b => obtain ⟨_, _, z, _⟩ := tup_of r2; cases z
    | lst b => obtain ⟨_, _, z, _⟩ := lst_of r2; cases z
    | frz b => simp [solid] at h2
    | hand => simp [solid] at h2
    | ins k ns b => simp only [Rep] at r2; obtain ⟨_, _, _, z, _⟩ := r2; cases z
  | .str c, e, v, _, h2, r1, r2 => by
    cases str_of r1
    cases e with
    | non => cases non_of r2
    | bl b => cases bl_of r2
    | int b => cases int_of r2
    | str b => cases str_of r2; rfl
    | tup b => obtain ⟨_, _, z, _⟩ := tup_of r2; cases z
    | lst b => obtain ⟨_, _, z, _⟩ := lst_of r2; cases z
    | frz b => simp [solid] at h2
    | hand => simp [solid] at h2
    | ins k ns b => simp only [Rep] at r2; obtain ⟨_, _, _, z, _⟩ := r2; cases z
  | .frz _, _, _, h1, _, _, _ => by simp [solid] at h1
  | .hand, _, _, h1, _, _, _ => by simp [solid] at h1
  | .tup xs, e, v, h1, h2, r1, r2 => by
    obtain ⟨a, vs, rfl, t, rl⟩ := tup_of r1
    simp only [solid] at h1
    cases e with
    | non => cases non_of r2
    | bl b => cases bl_of r2
    | int b => cases int_of r2
    | str b => cases str_of r2
    | frz b => simp [solid] at h2
    | hand => simp [solid] at h2
    | tup ys =>
      obtain ⟨a2, us, z, t2, rl2⟩ := tup_of r2
      cases z
      cases I.tuple_inj t.seq t2.seq
      simp only [solid] at h2
      rw [repl_inj I inj xs ys vs h1 h2 rl rl2]
    | lst ys =>
      obtain ⟨a2, us, z, ⟨_, t2⟩, _⟩ := lst_of r2
      cases z
      rcases t with ⟨_, t | ⟨o, t⟩⟩ | ⟨o, its, k, t, _⟩
      · rw [t2] at t; cases t
      · rw [t2] at t; cases t
      · rw [k_free I t] at t2; cases t2
    | ins k ns ys =>
      simp only [Rep] at r2
      obtain ⟨a2, dx, us, z, _, t2, _⟩ := r2
      cases z
      rcases t with ⟨_, t | ⟨o, t⟩⟩ | ⟨o, its, k, t, _⟩
      · rw [t2] at t; cases t
      · rw [t2] at t; cases t
      · rw [k_free I t] at t2; cases t2
  | .lst xs, e, v, h1, h2, r1, r2 => by
    obtain ⟨a, vs, rfl, ⟨_, t⟩, rl⟩ := lst_of r1
    simp only [solid] at h1
    cases e with
    | non => cases non_of r2
    | bl b => cases bl_of r2
    | int b => cases int_of r2
    | str b => cases str_of r2
    | frz b => simp [solid] at h2
    | hand => simp [solid] at h2
    | tup ys =>
      obtain ⟨a2, us, z, t2, _⟩ := tup_of r2
      cases z
      rcases t2 with ⟨_, t2 | ⟨o, t2⟩⟩ | ⟨o, its, k, t2, _⟩
      · rw [t2] at t; cases t
      · rw [t2] at t; cases t
      · rw [k_free I t2] at t; cases t
    | lst ys =>
      obtain ⟨a2, us, z, ⟨_, t2⟩, rl2⟩ := lst_of r2
      cases z
      rw [t] at t2
      cases t2
      simp only [solid] at h2
      rw [repl_inj I inj xs ys vs h1 h2 rl rl2]
    | ins k ns ys =>
      simp only [Rep] at r2
      obtain ⟨a2, dx, us, z, _, t2, _⟩ := r2
      cases z
      rw [t2] at t; cases t
  | .ins k ns xs, e, v, h1, h2, r1, r2 => by
    simp only [Rep] at r1
    obtain ⟨a, dx, vs, rfl, _, t, l, rl⟩ := r1
    simp only [solid, Bool.and_eq_true] at h1
    cases e with
    | non => cases non_of r2
    | bl b => cases bl_of r2
    | int b => cases int_of r2
    | str b => cases str_of r2
    | frz b => simp [solid] at h2
    | hand => simp [solid] at h2
    | tup ys =>
      obtain ⟨a2, us, z, t2, _⟩ := tup_of r2
      cases z
      rcases t2 with ⟨_, t2 | ⟨o, t2⟩⟩ | ⟨o, its, k, t2, _⟩
      · rw [t2] at t; cases t
      · rw [t2] at t; cases t
      · rw [k_free I t2] at t; cases t
    | lst ys =>
      obtain ⟨a2, us, z, ⟨_, t2⟩, _⟩ := lst_of r2
      cases z
      rw [t2] at t; cases t
    | ins k2 ns2 ys =>
      simp only [Rep] at r2
      obtain ⟨a2, dx2, us, z, _, t2, l2, rl2⟩ := r2
      cases z
      rw [t] at t2
      simp only [Option.some.injEq, HO.ins.injEq] at t2
      obtain ⟨ec, _, ez⟩ := t2
      simp only [solid, Bool.and_eq_true] at h2
      have e1 := inj k k2 h1.1 h2.1 ec
      have e2 : ns = ns2 := by
        have := congrArg (List.map Prod.fst) ez
        rwa [List.map_fst_zip (by omega), List.map_fst_zip (by omega)] at this
      have e3 : vs = us := by
        have := congrArg (List.map Prod.snd) ez
        rwa [List.map_snd_zip (by omega), List.map_snd_zip (by omega)] at this
      subst e1 e2 e3
      rw [repl_inj I inj xs ys vs h1.2 h2.2 rl rl2]
theorem repl_inj (I : Inv X pins σ H s) (inj : ∀ i j, (T i).isSome = true → (T j).isSome = true → cm i = cm j → i = j) : ∀ (ds es : List D) (vs : List V), solidL T ds = true → solidL T es = true → RepL X.K cm H N ph ds vs → RepL X.K cm H N ph es vs → ds = es
  | [], es, vs, _, _, r1, r2 => by
    cases r1.unnil
    cases es with
    | nil => rfl
    | cons e es => obtain ⟨_, _, z, _⟩ := r2.uncons; cases z
  | d :: ds, es, vs, h1, h2, r1, r2 => by
    obtain ⟨v, vs', rfl, a1, a2⟩ := r1.uncons
    cases es with
    | nil => cases r2.unnil
    | cons e es =>
      obtain ⟨_, _, z, b1, b2⟩ := r2.uncons
      cases z
      simp only [solidL, Bool.and_eq_true] at h1 h2
      rw [rep_inj I inj d e v h1.1 h2.1 a1 b1, repl_inj I inj ds es vs' h1.2 h2.2 a2 b2]
end
end
end FL
namespace FL
open PySem
open L2 (V Hp HO Cx Inv VK XK TE TT TA TS TI TG PE PT PA PS PSs PI PG Ends WX RelV Vals Rd upd upd_same upd_ne ne_of_none EP TP AP OpR R2 CallR FnOk Room Binds)
open PySem.SeqAt
structure EqC (P : Program) (w : World) (K : PySem.W.Frag) (mg : Str → Option Value) (base : Heap) (cm : Nat → Addr) (T : Tab) (lv : Nat) : Prop where
  inj : ∀ i j, (T i).isSome = true → (T j).isSome = true → cm i = cm j → i = j
  own : ∀ k F, T k = some F → ∃ f fd ps, FnOk P w K mg base (L2N.CX P w) lv f fd ps (spX K cm 2 F) ∧ PySem.W.findIn K (.ref (cm k)) "__eq__" = some (some (.ref f)) ∧ PySem.W.isFn K (.ref f) = true ∧ Binds K fd ps []
  sub : ∀ k j, (T k).isSome = true → (T j).isSome = true → PySem.W.notFirst K (cm k) (.ref (cm j)) = true
  ne : ∀ k, (T k).isSome = true → PySem.W.mroIn K (cm k) (.type "object") = some true ∧ PySem.W.findIn K (.ref (cm k)) "__ne__" = some (some (.builtin "object.__ne__"))
section
variable {X : Cx} {cm : Nat → Addr} {T : Tab} {lv : Nat} {pins : List (Addr × Obj)} {σ : St} {H : Hp} {s : Shared} {O : NS} {ph : Option Addr} {w : Wd} {A : Around}
section
variable {N : NS} {d e : D} {x y : V} {u v : Value} (I : Inv X pins σ H s) (hu : A.units + 64 < cLine) (f1 : D.flat 60 d = true) (f2 : D.flat 60 e = true) (rx : RelV x u) (ry : RelV y v) (r1 : Rep X.K cm H N ph d x) (r2 : Rep X.K cm H N ph e y)
include I hu f1 f2 rx ry r1 r2
end
end
end FL
namespace FLN
open PySem PySem.Spec PyProof.Rows PySem.SeqAt
section
variable {prog : Program} {w : World} {A : Around} {E : Value → Shared → Prop} {s : Shared} {K : PySem.W.Frag} {x C f : Addr} {ox : Obj} {od : Option Obj} {b tb : Value}
end
end FLN
namespace FL
open PySem
open L2 (V Hp HO Cx Inv VK XK TE TT TA TS TI TG PE PT PA PS PSs PI PG Ends WX RelV Vals Rd upd upd_same upd_ne ne_of_none EP TP AP OpR R2 CallR FnOk Room Binds)
open PySem.SeqAt
section
variable {X : Cx} {cm : Nat → Addr} {T : Tab} {lv : Nat} {pins : List (Addr × Obj)} {σ : St} {H : Hp} {s : Shared} {O : NS} {ph : Option Addr} {w : Wd} {A : Around}
end
end FL
namespace FL
open PySem
open L2 (V Hp HO Cx Inv VK XK TE TT TA TS TI TG PE PT PA PS PSs PI PG Ends WX RelV Vals Rd upd upd_same upd_ne ne_of_none EP TP AP OpR R2 CallR FnOk Room Binds)
open PySem.SeqAt
section
variable {X : Cx} {cm : Nat → Addr} {T : Tab} {lv : Nat} {pins : List (Addr × Obj)} {σ : St} {H : Hp} {s : Shared} {O : NS} {ph : Option Addr} {w : Wd} {A : Around}
end
end FL
namespace FL
open PySem
open L2 (V Hp HO Cx Inv VK XK TE TT TA TS TI TG PE PT PA PS PSs PI PG Ends WX RelV Vals Rd upd upd_same upd_ne ne_of_none EP TP AP OpR R2 CallR FnOk Room Binds)
def spN (K : PySem.W.Frag) (cm : Nat → Addr) (C : Addr) (ns : List Str) (m : Nat) (F : List D → M (List D)) : L2.Sp := fun vs H Q E => vs.length = m + 1 ∧ ∃ (q : MkQ) (us : List V) (ds : List D) (w : Wd), q.C = C ∧ q.Ok K cm ∧ vs = .ref q.a :: us ∧ H = q.H ∧ HandOk K cm q.B q.O0 q.ph0 w ∧ RepL K cm q.B (OO q.O0 q.ph0) q.ph0 ds us ∧
  PostN K cm q ns (fun cls d _ H' => E cls d H') { nx := fun _ H' => Q .non H', rt := Q } (F ds w)
section
variable {P : Program} {w : World} {K : PySem.W.Frag} {mg : Str → Option Value} {base : Heap} {cm : Nat → Addr}
theorem start_slf {q : MkQ} {us : List V} {ds : List D} {wd : Wd} {N : List Str} (ok : q.Ok K cm) (hl : ds.length + 1 ≤ N.length) (hand : HandOk K cm q.B q.O0 q.ph0 wd) (r : RepL K cm q.B (OO q.O0 q.ph0) q.ph0 ds us) :
    StS K cm (some (q.a, 0, q.dx)) q.sq (FL.Slot.slf :: (vals ds ++ List.replicate (N.length - ds.length - 1) FL.Slot.none)) q.ph0 wd (L2.start N (.ref q.a :: us)) q.H := by
  have lu := r.length
  have own : ∀ {i : Nat} {xs : List D}, (FL.Slot.slf :: (vals ds ++ List.replicate (N.length - ds.length - 1) FL.Slot.none))[i]? ≠ some (.own xs) := fun {i xs} e => by
    cases i with
    | zero => cases e
    | succ i =>
      rw [List.getElem?_cons_succ] at e
      rcases vals_get e with ⟨d, _, z⟩ | z <;> cases z
  have nst : ∀ {i : Nat} {xs : List D}, (FL.Slot.slf :: (vals ds ++ List.replicate (N.length - ds.length - 1) FL.Slot.none))[i]? ≠ some (.nest xs) := fun {i xs} e => by
    cases i with
    | zero => cases e
    | succ i =>
      rw [List.getElem?_cons_succ] at e
      rcases vals_get e with ⟨d, _, z⟩ | z <;> cases z
  have sub : ∀ a, OwnS q.sq.O0 (FL.Slot.slf :: (vals ds ++ List.replicate (N.length - ds.length - 1) FL.Slot.none)) (L2.start N (.ref q.a :: us)) a → q.sq.O0 a := fun a z => by
    rcases z with z | ⟨i, xs, e, _⟩
    · exact z
    · exact absurd e own
  have grow : ∀ b o, q.B b = some o → q.H b = some o := fun b o e => by
    unfold MkQ.H
    rw [upd_ne (ne_of_none e ok.ha), upd_ne (ne_of_none e ok.hd)]; exact e
  have kk : Keep q.B (OO q.O0 q.ph0) q.H (OO (OwnS q.sq.O0 (FL.Slot.slf :: (vals ds ++ List.replicate (N.length - ds.length - 1) FL.Slot.none)) (L2.start N (.ref q.a :: us))) q.ph0) := by
    refine ⟨fun b o _ e => grow b o e, fun b o e z => ?_⟩
    rcases z with z | z
    · rcases sub b z with z | z
      · exact .inl z
      · rw [z, ok.ha] at e; cases e
    · exact .inr z
  have tr : OTr q.H q.sq.O0 q.ph0 := fun b z => by
    rcases z with z | z
    · obtain ⟨n, u, e, k⟩ := ok.tr b z
      exact ⟨n, u, grow b u e, k⟩
    · rw [z]; exact ⟨ok.nph, _, MkQ.at_, .inr ⟨_, _, _, rfl⟩⟩
  refine ⟨⟨?_, fun i t x e1 e2 => ?_, tr.less sub⟩, hand.keep kk fun p _ o e => grow p o e, .refl, .refl, tr, fun i j p xs ys e => absurd e own, fun i p xs e => absurd e own, fun i es v e => absurd e nst⟩
  · unfold L2.start vals
    simp
    omega
  · cases i with
    | zero =>
      cases e1
      have e3 : (L2.start N (.ref q.a :: us))[0]? = some (some (.ref q.a)) := rfl
      rw [e3] at e2
      cases e2
      exact ⟨q.a, 0, q.dx, rfl, rfl⟩
    | succ i =>
      rw [List.getElem?_cons_succ] at e1
      rcases vals_get e1 with ⟨d, ed, es⟩ | es
      · subst es
        obtain ⟨v, ev, rv⟩ := r.get ed
        have hi : i < us.length := (List.getElem?_eq_some_iff.mp ev).1
        unfold L2.start at e2
        rw [List.map_cons, List.cons_append, List.getElem?_cons_succ, List.getElem?_append_left (by simpa using hi), List.getElem?_map, ev] at e2
        cases e2
        exact ⟨v, rfl, rv.keep kk (fun _ e => e) d v⟩
      · subst es; trivial
theorem init_ok {x qual : Str} {params : Arguments} {body : List Stmt} {scope : Scope} {dvs : List V} {f : Addr} {fd : FuncData} {N ps ns : List Str} {C : Addr} {k m : Nat} {b : SF} {es : List EF} (F : L2.FunD K x qual params body scope dvs [] f fd) (S : L2.FnScope N ps scope)
    (hps : ps.length = m + 1) (hn : m + 1 ≤ N.length)
    (hb : ∀ (cdv : Value) (A : Around) (outer : List PySem.Env) (s : Shared) (H : Hp) (E : XK) (q : MkQ), q.C = C → q.Ok K cm → Room k (A.deeper (PyProof.Rows.envOfC qual scope s.heap.objs.size f cdv)) →
      PSs (L2.cxOf (L2N.CX P w) P w K mg base N qual scope f cdv A outer s H E) body (tPre K cm (some (q.a, 0, q.dx)) q ns (fun cls d _ H' => E cls d H') b es)) :
    FnOk P w K mg base (L2N.CX P w) (k + 1) f fd ps (spN K cm C ns m (initF N.length b es)) := by
  refine F.ok S (fun vs H Q E h => by rw [h.1, hps]) fun cdv A outer s H vs Q E hr h => ?_
  obtain ⟨hl, q, us, ds, wd, hC, ok, rfl, rfl, hand, r, post⟩ := h
  refine ⟨_, hb cdv A outer s q.H E q hC ok hr, FL.Slot.slf :: (vals ds ++ List.replicate (N.length - ds.length - 1) FL.Slot.none), q.ph0, wd, start_slf ok (by rw [r.length]; simp only [List.length_cons] at hl; omega) hand r, post⟩
end
def eMake (k : Nat) (ns : List Str) (F : List D → M (List D)) (fs : List EF) : EF := fun ρ => M.bind (evs fs ρ) fun ds => M.bind (F ds) fun xs => M.ret (.ins k ns xs)
section
variable {X : Cx} {c : Cfg} {pos : Pos} {e : Expr} {fe : EF} {es : List Expr} {fs : List EF}
theorem run_mk {k : Nat} {f C : Addr} {fd : FuncData} {ps ns : List Str} {ds : List Value} {dvs : List V} {m : Nat} {F : List D → M (List D)} {pins : List (Addr × Obj)} {σ : St} {H : Hp} {s : Shared} {Q : VK} {us : List Value} {vs : List V} (M1 : L2.Mk X.K C f)
    (G : FnOk X.prog X.w X.K X.mg X.base (L2N.CX X.prog X.w) k f fd ps (spN X.K c.cm C ns m F)) (hr : Room (k + 1) X.A) (hb : Binds X.K fd ps ds) (hd : Vals dvs ds) {Wx : WX} (hx : L2N.Takes X Wx) (I : Inv X pins σ H s) (r : Vals vs us)
    (h : ∀ a dx, H a = none → H dx = none → dx ≠ a → spN X.K c.cm C ns m F (.ref a :: (vs ++ dvs)) (upd (upd H dx (.own a)) a (.ins C dx [])) (fun v H2 => v = .non ∧ Q (.ref a) H2) (fun cls d H' => Wx cls d σ H')) :
    wpAny (model X.prog X.w) X.A (call (.ref C) us) (EP X pins σ Q) X.xe s := by
  have sp := h (s.heap.objs.size + 1) s.heap.objs.size (I.hok.fresh (Nat.le_succ _)) (I.hok.fresh (Nat.le_refl _)) (Nat.ne_of_lt (Nat.lt_succ_self _))
  have born := L2.Inv.made (C := C) I
  have all : Vals (V.ref (s.heap.objs.size + 1) :: (vs ++ dvs)) (Value.ref (s.heap.objs.size + 1) :: (us ++ ds)) := .cons rfl (r.append hd)
  have len : (Value.ref (s.heap.objs.size + 1) :: us ++ ds).length = ps.length := by
    have z := all.length
    rw [G.len _ _ _ _ sp] at z
    exact z.symm
  refine wpAny_call (L2.make_map (f := f) I.kIn M1.makes M1.init (beq_iff_eq.mp M1.fn) (codeAny_mono (G.run _ X.stack _ _ ⟨Value.ref (s.heap.objs.size + 1) :: us, []⟩ (Value.ref (s.heap.objs.size + 1) :: (us ++ ds)) _ _ _ (hr.make C us [])
    (born.env0.make C us []) (hb _ (Value.ref (s.heap.objs.size + 1) :: us) born.kIn len) all sp) fun res s' q => ?_))
  match res, q with
  | .error e, q => exact L2N.passAt hx σ pins _ _ e s' born q
  | .ok (.ret u), q =>
    obtain ⟨v, H', I2, rv, ev, q2⟩ := born.after q
    subst ev
    exact ⟨rv, ⟨V.ref (s.heap.objs.size + 1), H', I2, rfl, q2⟩⟩
  | .ok .next, q => exact (show False from q).elim
  | .ok .brk, q => exact (show False from q).elim
  | .ok .cont, q => exact (show False from q).elim
theorem px_make {x : Str} {p : Pos} {k k0 : Nat} {f C : Addr} {fd : FuncData} {ps ns : List Str} {ds : List Value} {dvs : List V} {dds : List D} {m : Nat} {F : List D → M (List D)} (M1 : L2.Mk X.K C f) (hC : c.cm k0 = C)
    (G : FnOk X.prog X.w X.K X.mg X.base (L2N.CX X.prog X.w) k f fd ps (spN X.K c.cm C ns m F)) (hr : Room (k + 1) X.A) (hx : L2N.Takes X c.Wx) (hg : L2.Gl X x) (hm : X.mg x = some (.ref C)) (hb : Binds X.K fd ps ds) (hd : Vals dvs ds)
    (hdd : ∀ {H N ph}, RepL X.K c.cm H N ph dds dvs) (ha : PAX X c (e :: es) fs) (hn : fs.length + dds.length = m := by rfl) (hdb : (x == ("__debug__" : Str)) = false := by decide) (he : starEach (e :: es) X.env = (false, eval e X.env) :: starEach es X.env := by rfl) (hpl : (backTo pos (starEach es X.env)).any (·.1) = false := by rfl) :
    PX X c (.Call (.Name x p) (e :: es) [] pos) (eMake k0 ns (fun ds => F (ds ++ dds)) fs) := by
  refine ⟨fun pins s σ H Q I h => ?_⟩
  obtain ⟨O, ρ, ph, w, h⟩ := h
  have h1 := evs_run h
  refine wpAny_Call_Name_kw (L2.ld_glob I hg hm ?_ hdb)
  refine PySem.W.callWith_K (h₀ := X.base) I.ok.mod.kin M1.kp (L2.thn (ha.run pos pins s σ H _ I ⟨O, ρ, ph, w, h1⟩) fun us s1 ⟨vs, H1, I1, r, ds', ph1, w1, l, rl, h2⟩ => ⟨I1.kIn, ?_⟩) he hpl
  refine run_mk (c := c) M1 G hr hb hd hx I1 r fun a dx ha hdx ne => ?_
  have nph : ph1 ≠ some a := fun z => by
    obtain ⟨vs2, z2⟩ := h2.hand.tr z
    rw [ha] at z2; cases z2
  refine ⟨?_, ⟨H1, O, ph1, a, dx, C⟩, vs ++ dvs, ds' ++ dds, w1, rfl, ⟨ha, hdx, ne, h2.env.tr, nph⟩, rfl, rfl, h2.hand, rl.append hdd, ?_⟩
  · rw [List.length_cons, List.length_append, l, ← (hdd (H := H) (N := fun _ => False) (ph := none)).length, hn]
  · have post := h2.post
    cases ev : F (ds' ++ dds) w1 with
    | bad => simp only [M.bind, ev] at post; exact (show False from post).elim
    | ex k2 es2 zs w2 =>
      simp only [M.bind, ev] at post
      intro σ' H' ph' dd vs' x1 s1 hk hd2 l2 r2
      exact post dd H' ph' vs' x1 s1 hk hd2 l2 r2
    | ok xs w2 =>
      simp only [M.bind, ev] at post
      intro σ' H' ph' vs' x1 s1 hk obj l2 r2
      refine ⟨rfl, post (.ref a) H' ph' x1 s1 hk ?_⟩
      show Rep X.K c.cm _ _ _ _ _
      simp only [Rep]
      refine ⟨a, dx, vs', rfl, fun z => ?_, by rw [hC]; exact obj, l2, r2⟩
      rcases z with z | z
      · obtain ⟨_, u, z2, _⟩ := h2.env.tr a z
        rw [ha] at z2; cases z2
      · obtain ⟨vs3, z2⟩ := hk.tr z
        rw [obj] at z2; cases z2
def fldG (f : Str) : List Str → List D → Option D
  | n :: ns, x :: xs => if f = n then some x else fldG f ns xs
  | _, _ => none
def fldO (cs : List Nat) (f : Str) : D → M D
  | .ins k ns xs => if k ∈ cs then (match fldG f ns xs with | some d => M.ret d | none => M.fail) else M.fail
  | _ => M.fail
theorem fld_get {K : PySem.W.Frag} {cm : Nat → Addr} {H : Hp} {N : NS} {ph : Option Addr} {f : Str} {d : D} : ∀ (ns : List Str) (xs : List D) (vs : List V), RepL K cm H N ph xs vs → fldG f ns xs = some d → ∃ v, (ns.zip vs).lookup f = some v ∧ Rep K cm H N ph d v
  | [], _, _, _, h => by cases h
  | _ :: _, [], _, _, h => by cases h
  | n :: ns, x :: xs, vs, r, h => by
    obtain ⟨v, vs', rfl, r1, r2⟩ := r.uncons
    unfold fldG at h
    by_cases e : f = n
    · rw [if_pos e] at h
      cases h
      exact ⟨v, by rw [List.zip_cons_cons, List.lookup_cons, beq_iff_eq.mpr e], r1⟩
    · rw [if_neg e] at h
      obtain ⟨u, l, r3⟩ := fld_get ns xs vs' r2 h
      exact ⟨u, by rw [List.zip_cons_cons, List.lookup_cons, beq_eq_false_iff_ne.mpr e]; exact l, r3⟩
theorem px_fldO {f : Str} (cs : List Nat) (hc : ∀ k ∈ cs, L2.Cls X.K (c.cm k) ∧ L2.NoAttr X.K (c.cm k) f) (he : PX X c e fe) (hb : attributeBase e f X.env (eval e X.env) = eval e X.env := by rfl) : PX X c (.Attribute e f pos) (eUn (fldO cs f) fe) :=
  PE.to (L2.pe_fld he hb) fun σ H Q ⟨O, ρ, ph, w, h⟩ => ⟨O, ρ, ph, w, h.bind.imp fun v H1 ⟨d, ph1, w1, e1, s1, r1, h1⟩ => by
    cases d with
    | ins k ns xs =>
      unfold fldO at h1
      by_cases hk : k ∈ cs
      · simp only [if_pos hk] at h1
        cases hf : fldG f ns xs with
        | none => rw [hf] at h1; exact h1.no
        | some d =>
          rw [hf] at h1
          simp only [Rep] at r1
          obtain ⟨a, dx, vs, rfl, _, t, _, rl⟩ := r1
          obtain ⟨u, l, ru⟩ := fld_get ns xs vs rl hf
          exact ⟨a, _, dx, _, u, rfl, t, (hc k hk).1, (hc k hk).2, l, h1.ret ru⟩
      · simp only [if_neg hk] at h1; exact h1.no
    | _ => exact h1.no⟩
structure ObC (K : PySem.W.Frag) (C : Addr) : Prop where
  cl : L2.Cls K C
  ha : PySem.W.findIn K (.ref C) "__class__" = some (some (.builtin "object.__class__"))
  hn : PySem.W.specialIn K (.builtin "object.__class__") "__get__" = some (some (.builtin "getset_descriptor.__get__"))
  ht : PySem.W.takesIn K (.builtin "object.__class__") = some true
  hm : PySem.W.mroIn K C (.type "object") = some true
  ic : PySem.W.isClsIn K C = true
  ty : PySem.W.typeIn K (.ref C) = some (.type "type")
def isiO (cs : List Nat) (k0 : Nat) : D → M D
  | .ins k _ _ => if k ∈ cs then M.ret (.bl (k == k0)) else M.fail
  | d => match d.tyNm with
    | some _ => M.ret (.bl false)
    | none => M.fail
theorem kit_own {K : PySem.W.Frag} {C : Addr} {t : Value} {b : Bool} (o : ObC K C) (ne : (t == Value.ref C) = false) (h : PySem.W.subIn K t (.ref C) = some b) : PySem.W.kitOne K t (.ref C) = some b := by
  unfold PySem.W.kitOne
  rw [if_neg (by rw [ne]; simp)]
  show (if ((PySem.W.clsIn K C).isSome && PySem.W.typeIn K (.ref C) == some (.type "type")) = true then PySem.W.subIn K t (.ref C) else none) = some b
  have i1 : (PySem.W.clsIn K C).isSome = true := o.ic
  rw [i1, o.ty, if_pos (by simp), h]
theorem kit_self {K : PySem.W.Frag} {C : Addr} : PySem.W.kitOne K (.ref C) (.ref C) = some true := by
  unfold PySem.W.kitOne
  rw [if_pos (by simp)]
theorem px_isiO {x : Str} {p p2 : Pos} (cs : List Nat) (k0 : Nat) (hk0 : k0 ∈ cs) (ob : ∀ k ∈ cs, ObC X.K (c.cm k)) (sub : ∀ k ∈ cs, k ≠ k0 → PySem.W.subIn X.K (.ref (c.cm k)) (.ref (c.cm k0)) = some false ∧ c.cm k ≠ c.cm k0)
    (hg : L2.Gl X "isinstance") (hm : X.mg "isinstance" = none) (hgC : L2.Gl X x) (hmC : X.mg x = some (.ref (c.cm k0))) (he : PX X c e fe) (hdC : (x == ("__debug__" : Str)) = false := by decide)
    (hv : bootBuiltins "isinstance" = some (.builtin "isinstance") := by decide +kernel) (hs : starEach (e :: [.Name x p2]) X.env = (false, eval e X.env) :: starEach [.Name x p2] X.env := by rfl) (hpl : (backTo pos (starEach [.Name x p2] X.env)).any (·.1) = false := by rfl) :
    PX X c (.Call (.Name "isinstance" p) (e :: [.Name x p2]) [] pos) (eUn (isiO cs k0) fe) :=
  PE.to (L2.pe_callB L2.call_isi hg hm hv (L2.pa_cons he (L2.pa_cons (L2.pe_glob (v := .ref (c.cm k0)) hgC hmC rfl hdC) L2.pa_nil (by rfl)) hs) (by decide) (by decide) hs hpl) fun σ H Q ⟨O, ρ, ph, w, h⟩ => ⟨O, ρ, ph, w, h.bind.imp fun v H1 ⟨d, ph1, w1, e1, s1, r1, h1⟩ => by
    have other : ∀ n, d.tyNm = some n → PySem.W.subIn X.K (.type n) (.ref (c.cm k0)) = some false → Run X.K c.cm c.xa O (relV X.K c.cm O) c.Wx ρ σ ph1 H1 w1 (M.ret (.bl false)) Q → L2.rIsi X.K [v, .ref (c.cm k0)] H1 Q := fun n en hsub h2 =>
      ⟨v, .ref (c.cm k0), .type n, .ref (c.cm k0), false, rfl, .own _, tyX_of h1.hand r1 en, kit_own (ob k0 hk0) rfl hsub, h2.ret (b := .bl false) (by simp [Rep])⟩
    cases d with
    | ins k ns xs =>
      unfold isiO at h1
      by_cases hk : k ∈ cs
      · simp only [if_pos hk] at h1
        have r0 := r1
        simp only [Rep] at r0
        obtain ⟨a, dx, vs, rfl, _, t, _⟩ := r0
        have o := ob k hk
        refine ⟨.ref a, .ref (c.cm k0), .ref (c.cm k), .ref (c.cm k0), k == k0, rfl, .own _, .base (.ins t o.cl o.ha o.hn o.ht o.hm), ?_, h1.ret (b := .bl (k == k0)) (by simp [Rep])⟩
        by_cases hkk : k = k0
        · subst hkk
          rw [beq_self_eq_true]
          exact kit_self
        · obtain ⟨q1, q2⟩ := sub k hk hkk
          rw [beq_eq_false_iff_ne.mpr hkk]
          refine kit_own (ob k0 hk0) (beq_eq_false_iff_ne.mpr fun z => q2 ?_) q1
          injection z
      · simp only [if_neg hk] at h1; exact h1.no
    | non => exact other _ rfl rfl h1
    | bl _ => exact other _ rfl rfl h1
    | int _ => exact other _ rfl rfl h1
    | str _ => exact other _ rfl rfl h1
    | tup _ => exact other _ rfl rfl h1
    | lst _ => exact other _ rfl rfl h1
    | frz _ => exact other _ rfl rfl h1
    | hand => exact other _ rfl rfl h1⟩
end
end FL
namespace FL
open PySem
open L2 (V Hp HO Cx Inv VK XK TE TT TA TS TI TG PE PT PA PS PSs PI PG Ends WX RelV Vals Rd upd upd_same upd_ne ne_of_none EP TP AP OpR R2 CallR FnOk Room Binds)
section
variable {P : Program} {w : World} {K : PySem.W.Frag} {mg : Str → Option Value} {base : Heap} {cm : Nat → Addr}
structure MethAt (K : PySem.W.Frag) (C : Addr) (n qual : Str) (st : Stmt) (dvs : List V) (f : Addr) (fd : FuncData) : Prop where
  at_ : PySem.W.findIn K (.ref C) n = some (some (.ref f))
  fn : PySem.W.isFn K (.ref f) = true
  F : L2.FunD K n qual (L2.defArgs st) (L2.defBody st) (L2.defScope st) dvs [] f fd
theorem cls_ne {C C' : Addr} {n q q' : Str} {st st' : Stmt} {dvs dvs' : List V} (h : ∃ f fd, MethAt K C n q st dvs f fd) (h' : ∃ f fd, MethAt K C' n q' st' dvs' f fd) (ne : q ≠ q') : C ≠ C' := fun e => by
  obtain ⟨f, fd, a, _, F⟩ := h
  obtain ⟨f', fd', a', _, F'⟩ := h'
  subst e
  rw [a] at a'
  cases a'
  obtain ⟨oc, od, dV, kV, doc, pm, an, cdv, ct, osl, e1, l1, _⟩ := F.ex
  obtain ⟨oc', od', dV', kV', doc', pm', an', cdv', ct', osl', e2, l2, _⟩ := F'.ex
  rw [l1] at l2
  simp only [Option.some.injEq, Obj.mk.injEq, Data.func.injEq] at l2
  have e3 := l2.2.2.1
  rw [e1, e2] at e3
  exact ne (congrArg FuncData.qualname e3)
structure HasN (P : Program) (w : World) (K : PySem.W.Frag) (mg : Str → Option Value) (base : Heap) (cm : Nat → Addr) (x : Str) (k0 lvl : Nat) (ns : List Str) (bs : List (List D)) (m : Nat) (F : List D → M (List D)) : Prop where
  ex : ∃ f fd ps, L2.Mk K (cm k0) f ∧ mg x = some (.ref (cm k0)) ∧ FnOk P w K mg base (L2N.CX P w) lvl f fd ps (spN K cm (cm k0) ns m F) ∧ ∀ dds, dds ∈ bs → ∃ ds dvs, Binds K fd ps ds ∧ Vals dvs ds ∧ ∀ {H N ph}, RepL K cm H N ph dds dvs
theorem hasN_of {x qual : Str} {k0 k m n : Nat} {st : Stmt} {N ps ns : List Str} {b : SF} {es : List EF} (mk : PySem.W.makesIn K (cm k0) = true) (kp : PySem.W.keepIn K (.ref (cm k0)) = true) (hm : mg x = some (.ref (cm k0))) (h : ∃ f fd, MethAt K (cm k0) "__init__" qual st [] f fd)
    (S : L2.FnScope N ps (L2.defScope st)) (hps : ps.length = m + 1) (hN : N.length = n) (hn : m + 1 ≤ n)
    (hb : ∀ (kV doc pm : Value) (an : Option Addr) (cdv ct : Value) (us : List Value), us.length = ps.length → bindArgs (PySem.W.fnOf "__init__" qual (L2.defArgs st) (L2.defBody st) (L2.defScope st) .none kV doc pm an cdv ct) ⟨us, []⟩ = pure (ps.zip us))
    (body : ∀ (f : Addr) (cdv : Value) (A : Around) (outer : List PySem.Env) (s : Shared) (H : Hp) (E : XK) (q : MkQ), q.C = cm k0 → q.Ok K cm → Room k (A.deeper (PyProof.Rows.envOfC qual (L2.defScope st) s.heap.objs.size f cdv)) →
      PSs (L2.cxOf (L2N.CX P w) P w K mg base N qual (L2.defScope st) f cdv A outer s H E) (L2.defBody st) (tPre K cm (some (q.a, 0, q.dx)) q ns (fun cls d _ H' => E cls d H') b es)) :
    HasN P w K mg base cm x k0 (k + 1) ns [[]] m (initF n b es) := by
  obtain ⟨f, fd, a, fn, F⟩ := h
  subst hN
  exact ⟨f, fd, ps, ⟨mk, a, fn, kp⟩, hm, init_ok F S hps hn fun cdv A outer s H E q hC ok hr => body f cdv A outer s H E q hC ok hr, fun dds hd => by
    rw [List.mem_singleton.mp hd]
    exact ⟨[], [], F.bindsN hb, .nil, RepL.nil⟩⟩
structure HasM (P : Program) (w : World) (K : PySem.W.Frag) (mg : Str → Option Value) (base : Heap) (cm : Nat → Addr) (n : Str) (k0 lvl m : Nat) (F : List D → M D) : Prop where
  ex : ∃ f fd ps, FnOk P w K mg base (L2N.CX P w) lvl f fd ps (spX K cm m F) ∧ PySem.W.findIn K (.ref (cm k0)) n = some (some (.ref f)) ∧ PySem.W.isFn K (.ref f) = true ∧ Binds K fd ps [] ∧ PySem.W.keepIn K (.ref f) = true
theorem FnOk.up {j k : Nat} {f : Addr} {fd : FuncData} {ps : List Str} {sp : L2.Sp} (F : FnOk P w K mg base (L2N.CX P w) j f fd ps sp) (h : j ≤ k) : FnOk P w K mg base (L2N.CX P w) k f fd ps sp := F.mono h
end
section
variable {X : Cx} {c : Cfg} {pos : Pos} {e : Expr} {fe : EF} {es : List Expr} {fs : List EF}
theorem px_hasN {x : Str} {p : Pos} {k k0 m : Nat} {ns : List Str} {bs : List (List D)} {F : List D → M (List D)} (dds : List D) (G : HasN X.prog X.w X.K X.mg X.base c.cm x k0 k ns bs m F) (hr : Room (k + 1) X.A) (hx : L2N.Takes X c.Wx) (hg : L2.Gl X x) (ha : PAX X c (e :: es) fs)
    (hb : dds ∈ bs := by simp) (hn : fs.length + dds.length = m := by rfl) (hdb : (x == ("__debug__" : Str)) = false := by decide) (he : starEach (e :: es) X.env = (false, eval e X.env) :: starEach es X.env := by rfl) (hpl : (backTo pos (starEach es X.env)).any (·.1) = false := by rfl) :
    PX X c (.Call (.Name x p) (e :: es) [] pos) (eMake k0 ns (fun ds => F (ds ++ dds)) fs) := by
  obtain ⟨f, fd, ps, M1, hm, hF, hB⟩ := G.ex
  obtain ⟨ds, dvs, b1, b2, b3⟩ := hB dds hb
  exact px_make M1 rfl hF hr hx hg hm b1 b2 b3 ha hn hdb he hpl
def lenI : D → M D
  | .int i => if 0 ≤ i ∧ i < 1000000 then M.ret (.int i) else M.fail
  | _ => M.fail
def lenO (k0 : Nat) (F : List D → M D) : D → M D
  | .ins k ns xs => if k = k0 then M.bind (noEx (F [.ins k ns xs])) lenI else M.fail
  | _ => M.fail
def lenL (k0 : Nat) (F : List D → M D) : List D → M D
  | [d] => fun w => (match lenO k0 F d w with | .ok (.int i) w' => .ok (.int i) w' | _ => .bad)
  | _ => M.fail
end
end FL
namespace FL
open PySem
open L2 (V Hp HO Cx Inv VK XK TE TT TA TS TI TG PE PT PA PS PSs PI PG Ends WX RelV Vals Rd upd upd_same upd_ne ne_of_none EP TP AP OpR R2 CallR FnOk Room Binds)
def clsB (K : PySem.W.Frag) (C : Addr) (fs : List Str) : Bool := PySem.W.plainGet K C Str.empty && (PySem.W.hasDictIn K C && (PySem.W.plainOver K C && ((PySem.W.findIn K (.ref C) "__setattr__" == some (some (.builtin "object.__setattr__"))) &&
  ((PySem.W.findIn K (.ref C) "__class__" == some (some (.builtin "object.__class__"))) && ((PySem.W.typeIn K (.ref C) == some (.type "type")) && (PySem.W.makesIn K C && (PySem.W.keepIn K (.ref C) && ((PySem.W.findIn K (.ref C) "__ne__" == some (some (.builtin "object.__ne__"))) &&
  (fs.all (fun f => PySem.W.findIn K (.ref C) f == some none) && (PySem.W.clsIn K C).any (fun cd => cd.mro == [.ref C, .type "object"]))))))))))
structure ClsF (K : PySem.W.Frag) (C : Addr) (fs : List Str) : Prop where
  cl : L2.Cls K C
  ha : PySem.W.findIn K (.ref C) "__class__" = some (some (.builtin "object.__class__"))
  ty : PySem.W.typeIn K (.ref C) = some (.type "type")
  makes : PySem.W.makesIn K C = true
  kp : PySem.W.keepIn K (.ref C) = true
  ne : PySem.W.findIn K (.ref C) "__ne__" = some (some (.builtin "object.__ne__"))
  no : ∀ f ∈ fs, L2.NoAttr K C f
  mro : ∃ cd, PySem.W.clsIn K C = some cd ∧ cd.mro = [.ref C, .type "object"]
section
variable {K : PySem.W.Frag} {C : Addr} {fs : List Str}
theorem clsF_of (h : clsB K C fs = true) : ClsF K C fs := by
  unfold clsB at h
  simp only [Bool.and_eq_true] at h
  obtain ⟨h1, h2, h3, h4, h5, h6, h7, h8, h9, h10, h11⟩ := h
  refine ⟨⟨h1, h2, h3, beq_iff_eq.mp h4⟩, beq_iff_eq.mp h5, beq_iff_eq.mp h6, h7, h8, beq_iff_eq.mp h9, fun f hf => ?_, ?_⟩
  · exact beq_iff_eq.mp (List.all_eq_true.mp h10 f hf)
  · cases e : PySem.W.clsIn K C with
    | none => rw [e] at h11; cases h11
    | some cd => rw [e] at h11; exact ⟨cd, rfl, beq_iff_eq.mp h11⟩
theorem ClsF.sub (h : ClsF K C fs) {C' : Addr} (n : C' ≠ C) : PySem.W.subIn K (.ref C) (.ref C') = some false := by
  obtain ⟨cd, e1, e2⟩ := h.mro
  show (PySem.W.clsIn K C).bind _ = _
  rw [e1]
  show (if cd.mro.isEmpty then none else some (cd.mro.contains (.ref C'))) = some false
  rw [e2]
  have : (Value.ref C' == Value.ref C) = false := beq_eq_false_iff_ne.mpr fun z => n (by injection z)
  have t2 : (Value.ref C' == Value.type "object") = false := rfl
  simp [List.contains, List.elem, this, t2]
theorem ClsF.obj (h : ClsF K C fs) : PySem.W.mroIn K C (.type "object") = some true := by
  obtain ⟨cd, e1, e2⟩ := h.mro
  show (PySem.W.clsIn K C).bind _ = _
  rw [e1]
  show (if cd.mro.isEmpty then none else some (cd.mro.contains (.type "object"))) = some true
  rw [e2]
  have t2 : (Value.type "object" == Value.ref C) = false := rfl
  simp [List.contains, List.elem, t2]
theorem ClsF.ob (h : ClsF K C fs) (hn : PySem.W.specialIn K (.builtin "object.__class__") "__get__" = some (some (.builtin "getset_descriptor.__get__"))) (ht : PySem.W.takesIn K (.builtin "object.__class__") = some true) : ObC K C :=
  ⟨h.cl, h.ha, hn, ht, h.obj, by obtain ⟨cd, e1, _⟩ := h.mro; unfold PySem.W.isClsIn; rw [e1]; rfl, h.ty⟩
end
structure AllC (K : PySem.W.Frag) (cm : Nat → Addr) (cs : List Nat) (fs : Nat → List Str) (qs : Nat → Str) : Prop where
  cf : ∀ k ∈ cs, ClsF K (cm k) (fs k)
  init : ∀ k ∈ cs, ∃ st dvs f fd, MethAt K (cm k) "__init__" (qs k) st dvs f fd
  hn : PySem.W.specialIn K (.builtin "object.__class__") "__get__" = some (some (.builtin "getset_descriptor.__get__"))
  ht : PySem.W.takesIn K (.builtin "object.__class__") = some true
  nd : ∀ i ∈ cs, ∀ j ∈ cs, qs i = qs j → i = j
section
variable {P : Program} {w : World} {K : PySem.W.Frag} {mg : Str → Option Value} {base : Heap} {cm : Nat → Addr} {cs : List Nat} {fs : Nat → List Str} {qs : Nat → Str}
theorem AllC.inj (h : AllC K cm cs fs qs) {i j : Nat} (hi : i ∈ cs) (hj : j ∈ cs) (e : cm i = cm j) : i = j := by
  by_cases q : qs i = qs j
  · exact h.nd i hi j hj q
  · obtain ⟨st, dvs, h1⟩ := h.init i hi
    obtain ⟨st', dvs', h2⟩ := h.init j hj
    exact absurd e (cls_ne h1 h2 q)
theorem AllC.ob (h : AllC K cm cs fs qs) : ∀ k ∈ cs, ObC K (cm k) := fun k hk => (h.cf k hk).ob h.hn h.ht
theorem AllC.sub (h : AllC K cm cs fs qs) {k0 : Nat} (h0 : k0 ∈ cs) : ∀ k ∈ cs, k ≠ k0 → PySem.W.subIn K (.ref (cm k)) (.ref (cm k0)) = some false ∧ cm k ≠ cm k0 := fun k hk n =>
  have ne : cm k ≠ cm k0 := fun e => n (h.inj hk h0 e)
  ⟨(h.cf k hk).sub (Ne.symm ne), ne⟩
end
section
variable {X : Cx} {c : Cfg} {pos : Pos} {e : Expr} {fe : EF} {cs : List Nat} {fs : Nat → List Str} {qs : Nat → Str}
theorem px_fldA {f : Str} (ks : List Nat) (A : AllC X.K c.cm cs fs qs) (hk : ∀ k ∈ ks, k ∈ cs ∧ f ∈ fs k) (he : PX X c e fe) (hb : attributeBase e f X.env (eval e X.env) = eval e X.env := by rfl) : PX X c (.Attribute e f pos) (eUn (fldO ks f) fe) :=
  px_fldO ks (fun k h => ⟨(A.cf k (hk k h).1).cl, (A.cf k (hk k h).1).no f (hk k h).2⟩) he hb
theorem px_isiA {x : Str} {p p2 : Pos} (k0 : Nat) (A : AllC X.K c.cm cs fs qs) (h0 : k0 ∈ cs) (hg : L2.Gl X "isinstance") (hm : X.mg "isinstance" = none) (hgC : L2.Gl X x) (hmC : X.mg x = some (.ref (c.cm k0))) (he : PX X c e fe) (hdC : (x == ("__debug__" : Str)) = false := by decide)
    (hs : starEach (e :: [.Name x p2]) X.env = (false, eval e X.env) :: starEach [.Name x p2] X.env := by rfl) (hpl : (backTo pos (starEach [.Name x p2] X.env)).any (·.1) = false := by rfl) :
    PX X c (.Call (.Name "isinstance" p) (e :: [.Name x p2]) [] pos) (eUn (isiO cs k0) fe) := px_isiO cs k0 h0 A.ob (A.sub h0) hg hm hgC hmC he hdC (by decide +kernel) hs hpl
end
theorem al_n {P : Nat → Prop} : ∀ k ∈ ([] : List Nat), P k := fun _ h => nomatch h
theorem al_c {P : Nat → Prop} {a : Nat} {l : List Nat} (h : P a) (t : ∀ k ∈ l, P k) : ∀ k ∈ a :: l, P k := fun k hk => by
  rcases List.mem_cons.mp hk with rfl | hk
  · exact h
  · exact t k hk
theorem HasM.up {P : Program} {w : World} {K : PySem.W.Frag} {mg : Str → Option Value} {base : Heap} {cm : Nat → Addr} {n : Str} {k0 l l' m : Nat} {F : List D → M D} (G : HasM P w K mg base cm n k0 l m F) (h : l ≤ l') : HasM P w K mg base cm n k0 l' m F := by
  obtain ⟨f, fd, ps, g1, g2⟩ := G.ex
  exact ⟨f, fd, ps, g1.mono h, g2⟩
def gL (is : List Nat) : GF := fun d ρ => match d with
  | .lst ds => gAll is ds ρ
  | _ => none
def sUnpL (is : List Nat) (e : EF) : SF := fun ρ w => onE (e ρ) ρ w fun d w' => match gL is d ρ with
  | some ρ' => .nx ρ' w'
  | none => .bad
end FL
namespace FL
open PySem
open L2 (V Hp HO Cx Inv VK XK TE TT TA TS TI TG PE PT PA PS PSs PI PG Ends WX RelV Vals Rd upd upd_same upd_ne ne_of_none EP TP AP OpR R2 CallR FnOk Room Binds)
def eOrT (a b : EF) : EF := fun ρ => M.bind (a ρ) fun x => M.bind (truth x) fun k => if k = true then M.ret x else b ρ
section
variable {X : Cx} {c : Cfg} {pos : Pos} {a b : Expr} {fa fb : EF} {rest : List Expr}
end
def eOwnIx (i : Nat) (k : EF) : EF := fun ρ => match ρ[i]? with
  | some (.own xs) => M.bind (k ρ) (ixL xs)
  | _ => M.fail
section
variable {X : Cx} {c : Cfg} {q : Sq} {pos : Pos} {b : Expr} {fb : EF}
theorem px_ownIx (i : Nat) {x : Str} {p0 : Pos} (hb : PX X c b fb) (hN : X.N[i]? = some x := by rfl) (hv : L2.Vis X.env.scope x := by first | exact Or.inl rfl | exact Or.inr (Or.inl rfl) | exact Or.inr (Or.inr rfl)) (hd : (x == ("__debug__" : Str)) = false := by decide)
    (hcd : (x == ("__classdict__" : Str)) = false := by decide) (hs : L2.PlainIx b := by exact fun _ _ => rfl) : PX X c (.Subscript (.Name x p0) b pos) (eOwnIx i fb) :=
  PE.to (L2.pe_ix L2.ix_seq (L2.pe_var hN hv hd hcd) hb hs) fun σ H Q ⟨O, ρ, ph, w, h⟩ => by
    unfold eOwnIx at h
    cases e : ρ[i]? with
    | none => rw [e] at h; exact h.no
    | some s =>
      rw [e] at h
      cases s with
      | own xs =>
        obtain ⟨p, vs, e1, o, hp, r⟩ := h.env.ownd e
        refine ⟨.ref p, e1, O, ρ, ph, w, h.bind.imp fun y H2 ⟨d, ph1, w1, ex, s1, r1, h1⟩ => ?_⟩
        obtain ⟨p', vs', e1', o', hp', r'⟩ := h1.env.ownd e
        rw [e1] at e1'; cases e1'
        obtain ⟨j, v, e3, e4, q⟩ := ixL_run r' r1 h1
        exact .inl ⟨p, vs', j, v, rfl, e3, .inl (.inl hp'), e4, q⟩
      | _ => exact h.no
def stK (i : Nat) (ρ : Env) : List D → Wd → SR
  | [d, .int j], w => (match ρ[i]? with
    | some (.own xs) => (match ixP xs.length j with
      | some n => .nx (ρ.set i (.own (xs.set n d))) w
      | none => .bad)
    | _ => .bad)
  | _, _ => .bad
theorem stK_cases (i : Nat) (ρ : Env) (xs : List D) (w : Wd) : stK i ρ xs w = .bad ∨ ∃ d j ys n, xs = [d, .int j] ∧ ρ[i]? = some (.own ys) ∧ ixP ys.length j = some n ∧ stK i ρ xs w = .nx (ρ.set i (.own (ys.set n d))) w := by
  unfold stK
  split
  · rename_i d j
    split
    · rename_i ys e
      split
      · rename_i n e2
        exact .inr ⟨d, j, ys, n, rfl, e, e2, rfl⟩
      · exact .inl rfl
    · exact .inl rfl
  · exact .inl rfl
def sItem (i : Nat) (k e : EF) : SF := fun ρ w => match ρ[i]? with
  | some (.own _) => onE (M.bind (e ρ) fun d => M.bind (k ρ) fun j => M.ret [d, j]) ρ w (stK i ρ)
  | _ => .bad
theorem psx_item (i : Nat) {x : Str} {p0 p2 : Pos} {k e : Expr} {fk fe : EF} (he : PX X c e fe) (hk : PX X c k fk)
    (hg : PG X (.Subscript (.Name x p0) k p2) (L2.gSub (L2.tVar i) (tX X.K c.cm c.xa c.Wx fk) L2.rSetL)) (hs : swapsWithSole [.Subscript (.Name x p0) k p2] e pos.line X.env = pure false := by rfl) (hw : swappedStores [.Subscript (.Name x p0) k p2] e X.env = pure none := by rfl)
    (h1 : (assignEach [.Subscript (.Name x p0) k p2] X.env).map (·.2) = [assign (.Subscript (.Name x p0) k p2) X.env] := by rfl) : PSX X c q (.Assign [.Subscript (.Name x p0) k p2] e pos) (sItem i fk fe) :=
  PS.to (L2.ps_asg he hg hs hw h1) fun D σ H ⟨ρ, ph, w, h, hp⟩ => by
    unfold sItem at hp
    cases e0 : ρ[i]? with
    | none => rw [e0] at hp; exact (show False from hp).elim
    | some sl =>
      rw [e0] at hp
      cases sl with
      | own ys =>
        have r0 := onE_run (rel := relL X.K c.cm (OwnS q.O0 ρ σ)) h hp
        refine ⟨_, ρ, ph, w, (Run.bind (rel := relV X.K c.cm (OwnS q.O0 ρ σ)) r0).imp fun v H1 ⟨d, ph1, w1, e1, s1, r1, h1⟩ => ?_⟩
        obtain ⟨p, vs, u1, o, hv, r⟩ := h1.env.ownd e0
        refine ⟨.ref p, u1, _, ρ, ph1, w1, (Run.bind (rel := relV X.K c.cm (OwnS q.O0 ρ σ)) h1).imp fun iv H3 ⟨id, ph3, w3, e3, s3, r3, h3⟩ => ?_⟩
        have r1' := Rep.keep (Ext.keep e3 s3) s3.m d v r1
        obtain ⟨xs, ph4, w4, r4, h4, k4, hp4⟩ := h3.ret (b := [v, iv]) (RepL.cons r1' (RepL.cons r3 RepL.nil))
        rcases stK_cases i ρ xs w4 with z | ⟨d', j, ys', n, rfl, e5, e6, z⟩
        · rw [z] at hp4; exact (show False from hp4).elim
        · rw [z] at hp4
          obtain ⟨_, _, e7, q1, q2⟩ := RepL.uncons r4
          cases e7
          obtain ⟨_, _, e7, q3, q4⟩ := q2.uncons
          cases e7
          cases int_of q3
          obtain ⟨p', vs', u1', o', hv', r'⟩ := h4.env.ownd e5
          rw [u1] at u1'; cases u1'
          obtain ⟨h5, k5⟩ := h4.chg e5 u1 (RepL.set (i := n) r' q1)
          exact ⟨p, vs', j, n, rfl, rfl, hv', by rw [ixP_eq, ← r'.length]; exact e6, hp4 σ _ _ h5 k5.kp⟩
      | _ => exact (show False from hp).elim
end
end FL
namespace FL
open PySem
open L2 (V Hp HO Cx Inv VK XK TE TT TA TS TI TG PE PT PA PS PSs PI PG Ends WX RelV Vals Rd upd upd_same upd_ne ne_of_none EP TP AP OpR R2 CallR FnOk Room Binds)
def kd : D → Nat
  | .non => 0
  | .bl _ => 1
  | .int _ => 2
  | .str _ => 3
  | .tup _ => 4
  | .lst _ => 5
  | .frz _ => 5
  | .ins _ _ _ => 6
  | .hand => 9
def unlK (i j : Nat) : Bool := i != j && (i != 9 && j != 9)
mutual
def unl1 : D → D → Bool
  | .int i, .int j => i != j
  | .bl i, .bl j => i != j
  | .tup xs, .tup ys => unlL xs ys
  | a, b => unlK (kd a) (kd b)
def unlL : List D → List D → Bool
  | [], [] => false
  | x :: xs, y :: ys => unl1 x y || unlL xs ys
  | _, _ => true
end
mutual
def noT (t : List D) : D → Bool
  | .lst ys | .frz ys => unlL t ys && noTL t ys
  | .tup ys | .ins _ _ ys => noTL t ys
  | _ => true
def noTL (t : List D) : List D → Bool
  | [] => true
  | y :: ys => noT t y && noTL t ys
end
section
variable {K : PySem.W.Frag} {cm : Nat → Addr} {H H' : Hp} {N N' : NS} {ph ph' : Option Addr}
def Dis (K : PySem.W.Frag) (H : Hp) : Prop := ∀ a o, K.lookup a = some o → H a = none
open Classical in
noncomputable def vk (K : PySem.W.Frag) (H : Hp) : V → Nat
  | .non => 0
  | .bl _ => 1
  | .int _ => 2
  | .str _ => 3
  | .ref a => if ∃ vs, Rd H a (.tup vs) ∨ KT K a vs then 4 else if ∃ vs, Rd H a (.lst vs) ∨ KL K a vs then 5 else 6
  | _ => 7
theorem rd_two {a : Addr} {u u' : HO} (h : Rd H a u) (h' : Rd H a u') : u = u' ∨ (∃ o, u = .frz o u') ∨ ∃ o, u' = .frz o u := by
  rcases h with h | ⟨o, h⟩ <;> rcases h' with h' | ⟨o', h'⟩ <;> (rw [h] at h'; injection h' with h')
  · exact .inl h'
  · exact .inr (.inl ⟨_, h'⟩)
  · exact .inr (.inr ⟨_, h'.symm⟩)
  · injection h' with _ h'; exact .inl h'
theorem rd_some {a : Addr} {u : HO} (h : Rd H a u) : ∃ x, H a = some x := by
  rcases h with h | ⟨o, h⟩
  · exact ⟨_, h⟩
  · exact ⟨_, h⟩
theorem dis_rd (dis : Dis K H) {a : Addr} {u : HO} {o : Obj} (h : Rd H a u) (hk : K.lookup a = some o) : False := by
  obtain ⟨x, e⟩ := rd_some h
  rw [dis a o hk] at e; cases e
theorem not_tl (dis : Dis K H) {a : Addr} {vs us : List V} (h : Rd H a (.tup vs) ∨ KT K a vs) (h' : Rd H a (.lst us) ∨ KL K a us) : False := by
  rcases h with h | ⟨o, its, n, hk, hc, _⟩ <;> rcases h' with h' | ⟨o', its', n', hk', hc', _⟩
  · rcases rd_two h h' with z | ⟨_, z⟩ | ⟨_, z⟩ <;> cases z
  · exact dis_rd dis h hk'
  · exact dis_rd dis h' hk
  · rw [hk] at hk'; cases hk'
    rw [hc] at hc'
    injection hc' with z
    exact absurd z (by decide)
theorem not_it (dis : Dis K H) {a : Addr} {vs : List V} {c dx : Addr} {fs : List (Str × V)} (h : Rd H a (.tup vs) ∨ KT K a vs) (h' : H a = some (.ins c dx fs)) : False := by
  rcases h with h | ⟨o, its, n, hk, _⟩
  · rcases rd_two h (Rd.of h') with z | ⟨_, z⟩ | ⟨_, z⟩ <;> cases z
  · rw [dis a o hk] at h'; cases h'
theorem not_il (dis : Dis K H) {a : Addr} {vs : List V} {c dx : Addr} {fs : List (Str × V)} (h : Rd H a (.lst vs) ∨ KL K a vs) (h' : H a = some (.ins c dx fs)) : False := by
  rcases h with h | ⟨o, its, n, hk, _⟩
  · rcases rd_two h (Rd.of h') with z | ⟨_, z⟩ | ⟨_, z⟩ <;> cases z
  · rw [dis a o hk] at h'; cases h'
theorem tn_rd {a : Addr} {vs : List V} (h : TN K H N a vs) : Rd H a (.tup vs) ∨ KT K a vs := h.imp (fun z => z.2) id
theorem ln_rd {a : Addr} {vs : List V} (h : LN K H N a vs) : Rd H a (.lst vs) ∨ KL K a vs := h.imp (fun z => z.2) id
theorem tup_one (dis : Dis K H) {a : Addr} {vs us : List V} (h : Rd H a (.tup vs) ∨ KT K a vs) (h' : Rd H a (.tup us) ∨ KT K a us) : vs = us := by
  rcases h with h | ⟨o, its, n, hk, hc, hd, hz, hv⟩ <;> rcases h' with h' | ⟨o', its', n', hk', hc', hd', hz', hv'⟩
  · rcases rd_two h h' with z | ⟨_, z⟩ | ⟨_, z⟩ <;> cases z
    rfl
  · exact (dis_rd dis h hk').elim
  · exact (dis_rd dis h' hk).elim
  · rw [hk] at hk'; cases hk'
    rw [hd] at hd'; cases hd'
    exact hv.inj hv'
theorem kd_rep (dis : Dis K H) {d : D} {v : V} (r : Rep K cm H N ph d v) : kd d = 9 ∨ kd d = vk K H v := by
  cases d with
  | non => simp only [Rep] at r; subst r; exact .inr rfl
  | bl b => simp only [Rep] at r; subst r; exact .inr rfl
  | int b => simp only [Rep] at r; subst r; exact .inr rfl
  | str b => simp only [Rep] at r; subst r; exact .inr rfl
  | tup ds =>
    simp only [Rep] at r
    obtain ⟨a, vs, rfl, t, _⟩ := r
    exact .inr (if_pos ⟨vs, tn_rd t⟩).symm
  | lst ds =>
    simp only [Rep] at r
    obtain ⟨a, vs, rfl, t, _⟩ := r
    refine .inr ((if_neg fun ⟨us, z⟩ => not_tl dis z (.inl (Rd.of t.2))).trans (if_pos ⟨vs, .inl (Rd.of t.2)⟩)).symm
  | frz ds =>
    simp only [Rep] at r
    obtain ⟨a, vs, rfl, t, _⟩ := r
    exact .inr ((if_neg fun ⟨us, z⟩ => not_tl dis z (ln_rd t)).trans (if_pos ⟨vs, ln_rd t⟩)).symm
  | ins c ns ds =>
    simp only [Rep] at r
    obtain ⟨a, dx, vs, rfl, _, t, _⟩ := r
    exact .inr ((if_neg fun ⟨us, z⟩ => not_it dis z t).trans (if_neg fun ⟨us, z⟩ => not_il dis z t)).symm
  | hand => exact .inl rfl
theorem unlK_rep (dis : Dis K H) {d e : D} {v : V} (r : Rep K cm H N ph d v) (r' : Rep K cm H N' ph' e v) : unlK (kd d) (kd e) = false := by
  unfold unlK
  rcases kd_rep dis r with h | h
  · rw [h]; simp
  · rcases kd_rep dis r' with h' | h'
    · rw [h']; simp
    · rw [h, h']; simp
mutual
theorem unl1_rep (dis : Dis K H) : ∀ (d e : D) (v : V), Rep K cm H N ph d v → Rep K cm H N' ph' e v → unl1 d e = false
  | .tup ds, e, v, r, r' => by
    cases e with
    | tup es =>
      obtain ⟨a, vs, rfl, t, rl⟩ := tup_of r
      obtain ⟨a', us, z, t', rl'⟩ := tup_of r'
      cases z
      cases tup_one dis (tn_rd t) (tn_rd t')
      show unlL ds es = false
      exact unlL_rep dis ds es vs rl rl'
    | _ => exact unlK_rep dis r r'
  | .int i, e, v, r, r' => by
    cases e with
    | int j =>
      simp only [Rep] at r r'
      subst r
      cases r'
      show (i != i) = false
      simp
    | _ => exact unlK_rep dis r r'
  | .bl i, e, v, r, r' => by
    cases e with
    | bl j =>
      simp only [Rep] at r r'
      subst r
      cases r'
      show (i != i) = false
      simp
    | _ => exact unlK_rep dis r r'
  | .non, e, v, r, r' => by cases e <;> exact unlK_rep dis r r'
  | .str _, e, v, r, r' => by cases e <;> exact unlK_rep dis r r'
  | .lst _, e, v, r, r' => by cases e <;> exact unlK_rep dis r r'
  | .frz _, e, v, r, r' => by cases e <;> exact unlK_rep dis r r'
  | .ins _ _ _, e, v, r, r' => by cases e <;> exact unlK_rep dis r r'
  | .hand, e, v, r, r' => by cases e <;> exact unlK_rep dis r r'
theorem unlL_rep (dis : Dis K H) : ∀ (ds es : List D) (vs : List V), RepL K cm H N ph ds vs → RepL K cm H N' ph' es vs → unlL ds es = false
  | [], es, vs, r, r' => by
    cases r.unnil
    cases es with
    | nil => rfl
    | cons e es => obtain ⟨_, _, z, _⟩ := r'.uncons; cases z
  | d :: ds, es, vs, r, r' => by
    obtain ⟨v, vs', rfl, r1, r2⟩ := r.uncons
    cases es with
    | nil => cases r'.unnil
    | cons e es =>
      obtain ⟨_, _, z, q1, q2⟩ := r'.uncons
      cases z
      show (unl1 d e || unlL ds es) = false
      rw [unl1_rep dis d e v r1 q1, unlL_rep dis ds es vs' r2 q2]
      rfl
end
mutual
theorem rep_upd (dis : Dis K H) {b : Addr} {t : List D} {us us' : List V} (hb : H b = some (.lst us)) (rt : RepL K cm H N ph t us) : ∀ (d : D) (v : V), noT t d = true → Rep K cm H N ph d v → Rep K cm (upd H b (.lst us')) N ph d v
  | .non, v, _, r => by simpa [Rep] using r
  | .bl _, v, _, r => by simpa [Rep] using r
  | .int _, v, _, r => by simpa [Rep] using r
  | .str _, v, _, r => by simpa [Rep] using r
  | .tup ds, v, h, r => by
    simp only [Rep] at r ⊢
    obtain ⟨a, vs, rfl, q, rl⟩ := r
    have h : noTL t ds = true := by simpa [noT] using h
    refine ⟨a, vs, rfl, ?_, repl_upd dis hb rt ds vs h rl⟩
    rcases q with ⟨n, q⟩ | q
    · refine .inl ⟨n, ?_⟩
      have ne : a ≠ b := fun z => by
        subst z
        rcases q with q | ⟨_, q⟩ <;> (rw [hb] at q; cases q)
      rcases q with q | ⟨o, q⟩
      · exact .inl (by rw [upd_ne ne]; exact q)
      · exact .inr ⟨o, by rw [upd_ne ne]; exact q⟩
    · exact .inr q
  | .lst ds, v, h, r => by
    simp only [Rep] at r ⊢
    obtain ⟨a, vs, rfl, ⟨n, q⟩, rl⟩ := r
    have h : unlL t ds = true ∧ noTL t ds = true := by simpa [noT] using h
    have ne : a ≠ b := fun z => by
      subst z
      rw [hb] at q; cases q
      rw [unlL_rep dis _ _ _ rt rl] at h
      exact Bool.false_ne_true h.1
    exact ⟨a, vs, rfl, ⟨n, by rw [upd_ne ne]; exact q⟩, repl_upd dis hb rt ds vs h.2 rl⟩
  | .frz ds, v, h, r => by
    simp only [Rep] at r ⊢
    obtain ⟨a, vs, rfl, q, rl⟩ := r
    have h : unlL t ds = true ∧ noTL t ds = true := by simpa [noT] using h
    refine ⟨a, vs, rfl, ?_, repl_upd dis hb rt ds vs h.2 rl⟩
    rcases q with ⟨n, q⟩ | q
    · refine .inl ⟨n, ?_⟩
      have ne : a ≠ b := fun z => by
        subst z
        rcases q with q | ⟨_, q⟩
        · rw [hb] at q; cases q
          rw [unlL_rep dis _ _ _ rt rl] at h
          exact Bool.false_ne_true h.1
        · rw [hb] at q; cases q
      rcases q with q | ⟨o, q⟩
      · exact .inl (by rw [upd_ne ne]; exact q)
      · exact .inr ⟨o, by rw [upd_ne ne]; exact q⟩
    · exact .inr q
  | .ins c ns ds, v, h, r => by
    simp only [Rep] at r ⊢
    obtain ⟨a, dx, vs, rfl, n, q, l, rl⟩ := r
    have h : noTL t ds = true := by simpa [noT] using h
    have ne : a ≠ b := fun z => by subst z; rw [hb] at q; cases q
    exact ⟨a, dx, vs, rfl, n, by rw [upd_ne ne]; exact q, l, repl_upd dis hb rt ds vs h rl⟩
  | .hand, v, _, r => by simpa [Rep] using r
theorem repl_upd (dis : Dis K H) {b : Addr} {t : List D} {us us' : List V} (hb : H b = some (.lst us)) (rt : RepL K cm H N ph t us) : ∀ (ds : List D) (vs : List V), noTL t ds = true → RepL K cm H N ph ds vs → RepL K cm (upd H b (.lst us')) N ph ds vs
  | [], vs, _, r => by cases r.unnil; exact RepL.nil
  | d :: ds, vs, h, r => by
    obtain ⟨v, vs', rfl, r1, r2⟩ := r.uncons
    have h : noT t d = true ∧ noTL t ds = true := by simpa [noTL] using h
    exact RepL.cons (rep_upd dis hb rt d v h.1 r1) (repl_upd dis hb rt ds vs' h.2 r2)
end
end
def wipS (t : List D) : Slot → Slot
  | .val d => if noT t d = true then .val d else .none
  | .nest ds => if noT t (.lst ds) = true then .nest ds else .none
  | s => s
def wipT (t : List D) (ρ : Env) : Env := ρ.map (wipS t)
def okS1 (t : List D) : Slot → Bool
  | .own xs => noTL t xs
  | .exc _ _ xs => noTL t xs
  | _ => true
def okW (t : List D) : Wd → Bool
  | none => true
  | some hs => noTL t hs
def okT (t : List D) (ρ : Env) (w : Wd) : Bool := ρ.all (okS1 t) && okW t w
theorem wipT_at {t : List D} {ρ : Env} {i : Nat} {s : Slot} (e : (wipT t ρ)[i]? = some s) : ∃ s0, ρ[i]? = some s0 ∧ s = wipS t s0 := by
  unfold wipT at e
  rw [List.getElem?_map] at e
  cases h : ρ[i]? with
  | none => rw [h] at e; cases e
  | some s0 => rw [h] at e; exact ⟨s0, rfl, (Option.some.inj e).symm⟩
theorem wipT_own {t : List D} {ρ : Env} {i : Nat} {xs : List D} : (wipT t ρ)[i]? = some (.own xs) ↔ ρ[i]? = some (.own xs) := by
  constructor
  · intro e
    obtain ⟨s0, e0, e1⟩ := wipT_at e
    cases s0 with
    | own ys => cases e1; exact e0
    | val d => unfold wipS at e1; simp only at e1; split at e1 <;> cases e1
    | nest d => unfold wipS at e1; simp only at e1; split at e1 <;> cases e1
    | none => cases e1
    | exc => cases e1
    | slf => cases e1
  · intro e
    unfold wipT
    rw [List.getElem?_map, e]
    rfl
theorem wipT_nest {t : List D} {ρ : Env} {i : Nat} {xs : List D} (e : (wipT t ρ)[i]? = some (.nest xs)) : ρ[i]? = some (.nest xs) := by
  obtain ⟨s0, e0, e1⟩ := wipT_at e
  cases s0 with
  | nest ys =>
    unfold wipS at e1
    simp only at e1
    split at e1
    · cases e1; exact e0
    · cases e1
  | val d => unfold wipS at e1; simp only at e1; split at e1 <;> cases e1
  | own ys => cases e1
  | none => cases e1
  | exc => cases e1
  | slf => cases e1
section
variable {K : PySem.W.Frag} {cm : Nat → Addr} {xa : Option (Addr × Nat × Addr)} {q : Sq} {ρ : Env} {σ : St} {H : Hp} {ph : Option Addr} {w : Wd}
theorem own_wipT {t : List D} {a : Addr} : OwnS q.O0 (wipT t ρ) σ a ↔ OwnS q.O0 ρ σ a := by
  unfold OwnS
  simp only [wipT_own]
theorem owns_wipT {t : List D} : OwnS q.O0 (wipT t ρ) σ = OwnS q.O0 ρ σ := by
  funext a
  exact propext own_wipT
theorem StS.put (dis : Dis K H) {b : Addr} {t : List D} {us us' : List V} (h : StS K cm xa q ρ ph w σ H) (nb : ¬ NN q ρ σ ph b) (hb : H b = some (.lst us)) (rt : RepL K cm H (NN q ρ σ ph) ph t us) (new : q.B b = none) (ok : okT t ρ w = true) :
    StS K cm xa q (wipT t ρ) ph w σ (upd H b (.lst us')) := by
  have ok2 : (∀ s ∈ ρ, okS1 t s = true) ∧ okW t w = true := by unfold okT at ok; simpa [List.all_eq_true] using ok
  have nph : ph ≠ some b := fun z => nb (.inr z)
  have own_ne : ∀ a, OwnS q.O0 ρ σ a → a ≠ b := fun a o z => nb (.inl (by rw [← z]; exact o))
  refine ⟨⟨by unfold wipT; simp [h.env.len], fun i s x e1 e2 => ?_, fun a o => ?_⟩, ?_, fun a o n e => ?_, h.phs, h.o0, fun i j p xs ys e1 e2 => h.inj i j p xs ys (wipT_own.mp e1) (wipT_own.mp e2), fun i p xs e1 => h.fresh i p xs (wipT_own.mp e1), fun i ds v e1 e2 => ?_⟩
  · obtain ⟨s0, e0, rfl⟩ := wipT_at e1
    have hh := h.env.at_ i s0 x e0 e2
    have hok := ok2.1 s0 (List.mem_of_getElem? e0)
    rw [owns_wipT]
    cases s0 with
    | none => trivial
    | slf => exact hh
    | val d =>
      obtain ⟨v, ev, r⟩ := hh
      unfold wipS
      simp only
      by_cases c : noT t d = true
      · rw [if_pos c]; exact ⟨v, ev, rep_upd dis hb rt d v c r⟩
      · rw [if_neg c]; trivial
    | nest ds =>
      obtain ⟨v, ev, r⟩ := hh
      unfold wipS
      simp only
      by_cases c : noT t (.lst ds) = true
      · rw [if_pos c]; exact ⟨v, ev, rep_upd dis hb rt _ v c r⟩
      · rw [if_neg c]; trivial
    | own ds =>
      obtain ⟨p, vs, ev, o, hp, r⟩ := hh
      exact ⟨p, vs, ev, o, by rw [upd_ne (own_ne p o)]; exact hp, repl_upd dis hb rt ds vs hok r⟩
    | exc c ns ds =>
      obtain ⟨a, dd, vs, ev, hx, n, hd, l, r⟩ := hh
      exact ⟨a, dd, vs, ev, hx, n, by rw [upd_ne (fun z => by rw [z, hb] at hd; cases hd)]; exact hd, l, repl_upd dis hb rt ds vs hok r⟩
  · rw [owns_wipT] at o
    obtain ⟨y, u, z, k⟩ := h.env.tr a o
    exact ⟨y, u, by rw [upd_ne (own_ne a o)]; exact z, k⟩
  · rw [owns_wipT]
    have hh := h.hand
    cases w with
    | none => cases ph with
      | none => trivial
      | some p => exact hh.elim
    | some hs =>
      have ok3 : noTL t hs = true := ok2.2
      cases ph with
      | none => exact hh.elim
      | some p =>
        obtain ⟨vs, h1, h2⟩ := hh
        exact ⟨vs, by rw [upd_ne (fun z => nph (by rw [z]))]; exact h1, repl_upd dis hb rt hs vs ok3 h2⟩
  · rw [upd_ne (fun z => by rw [z, new] at e; cases e)]; exact h.base a o n e
  · have e0 := wipT_nest e1
    obtain ⟨p, vs, rfl, h1, h2, h3⟩ := h.news i ds v e0 e2
    obtain ⟨s0, e00, e01⟩ := wipT_at e1
    rw [e0] at e00; cases e00
    have c : noT t (.lst ds) = true := by
      unfold wipS at e01
      simp only at e01
      by_cases c : noT t (.lst ds) = true
      · exact c
      · rw [if_neg c] at e01; cases e01
    have c2 : unlL t ds = true ∧ noTL t ds = true := by simpa [noT] using c
    obtain ⟨v', e3, r⟩ := h.env.nestd e0
    rw [e2] at e3; cases e3
    obtain ⟨a, us2, ea, ⟨_, ta⟩, rl⟩ := lst_of r
    cases ea
    rw [ta] at h2; cases h2
    refine ⟨p, vs, rfl, h1, ?_, h3⟩
    rw [upd_ne (fun z => ?_)]
    · exact ta
    · subst z
      rw [hb] at ta; cases ta
      rw [unlL_rep dis _ _ _ rt rl] at c2
      exact Bool.false_ne_true c2.1
end
section
variable (K : PySem.W.Frag) (cm : Nat → Addr) (xa : Option (Addr × Nat × Addr)) (q : Sq)
def Post3 (Wx : WX) (D : Ends) : SR → Prop
  | .nx ρ' w' => ∀ σ' H' ph', StS K cm xa q ρ' ph' w' σ' H' → D.nx σ' H'
  | .bk ρ' w' => ∀ σ' H' ph', StS K cm xa q ρ' ph' w' σ' H' → D.bk σ' H'
  | .ct ρ' w' => ∀ σ' H' ph', StS K cm xa q ρ' ph' w' σ' H' → D.ct σ' H'
  | .rt d w' => ∀ v H' ph', Ext q.ph0 q.B H' → PhS q.B q.ph0 ph' → HandOk K cm H' q.O0 ph' w' → Rep K cm H' (OO q.O0 ph') ph' d v → D.rt v H'
  | .ex c ns xs ρ' w' => ∀ σ' H' ph' dd vs, StS K cm xa q ρ' ph' w' σ' H' → H' dd = some (.xd (ns.zip vs).reverse) → ns.length = vs.length → RepL K cm H' (NN q ρ' σ' ph') ph' xs vs → Wx (.ref (cm c)) (some dd) σ' H'
  | .bad => False
def tY (Wx : WX) (s : SF) : TS := fun D σ H => ∃ ρ ph w, StS K cm xa q ρ ph w σ H ∧ Post3 K cm xa q Wx D (s ρ w)
end
abbrev PSY (X : Cx) (c : Cfg) (q : Sq) (st : Stmt) (s : SF) : Prop := PS X st (tY X.K c.cm c.xa q c.Wx s)
abbrev PSSY (X : Cx) (c : Cfg) (q : Sq) (st : List Stmt) (s : SF) : Prop := PSs X st (tY X.K c.cm c.xa q c.Wx s)
section
variable {K : PySem.W.Frag} {cm : Nat → Addr} {xa : Option (Addr × Nat × Addr)} {q : Sq} {H : Hp} {N : NS} {ph : Option Addr} {Wx : WX} {D : Ends} {r : SR}
theorem Post3.weak (h : Post3 K cm xa q Wx D r) : Post2 K cm xa q Wx D H N ph r := by
  cases r with
  | nx ρ' w' => exact fun σ' H' ph' s _ => h σ' H' ph' s
  | bk ρ' w' => exact fun σ' H' ph' s _ => h σ' H' ph' s
  | ct ρ' w' => exact fun σ' H' ph' s _ => h σ' H' ph' s
  | rt d w' => exact h
  | ex c ns xs ρ' w' => exact fun σ' H' ph' dd vs s _ => h σ' H' ph' dd vs s
  | bad => exact h
end
section
variable {X : Cx} {c : Cfg} {q : Sq} {pos : Pos} {e : Expr} {fe : EF} {st : Stmt} {sts : List Stmt} {s t : SF}
theorem psy_lift (h : PSX X c q st s) : PSY X c q st s := PS.to h fun D σ H ⟨ρ, ph, w, h, hp⟩ => ⟨ρ, ph, w, h, hp.weak⟩
theorem pssy_cons (h1 : PSY X c q st s) (h2 : PSSY X c q sts t) : PSSY X c q (st :: sts) (sSeq s t) := PSs.to (L2.pss_cons h1 h2) fun D σ H ⟨ρ, ph, w, h, hp⟩ => by
  refine ⟨ρ, ph, w, h, ?_⟩
  unfold sSeq at hp
  cases er : s ρ w with
  | nx ρ' w' =>
    rw [er] at hp
    exact fun σ' H' ph' h2 => ⟨ρ', ph', w', h2, hp⟩
  | rt d w' => rw [er] at hp; exact hp
  | bk ρ' w' => rw [er] at hp; exact hp
  | ct ρ' w' => rw [er] at hp; exact hp
  | ex c ns xs ρ' w' => rw [er] at hp; exact hp
  | bad => rw [er] at hp; exact hp
theorem pssy_one (h1 : PSY X c q st s) : PSSY X c q [st] s := L2.pss_one h1
theorem onE_run3 {K : PySem.W.Frag} {cm : Nat → Addr} {xa : Option (Addr × Nat × Addr)} {q : Sq} {ρ : Env} {σ : St} {H : Hp} {ph : Option Addr} {w : Wd} {Wx : WX} {D : Ends} {α β : Type} {rel : Hp → Option Addr → α → β → Prop} {m : M α} {k : α → Wd → SR} (h : StS K cm xa q ρ ph w σ H) (hp : Post3 K cm xa q Wx D (onE m ρ w k)) :
    Run K cm xa (OwnS q.O0 ρ σ) rel Wx ρ σ ph H w m (fun b H1 => ∃ a ph1 w1, rel H1 ph1 a b ∧ StS K cm xa q ρ ph1 w1 σ H1 ∧ Post3 K cm xa q Wx D (k a w1)) := by
  refine ⟨h.env, h.hand, ?_⟩
  unfold onE at hp
  cases et : m w with
  | ok a w' =>
    rw [et] at hp
    exact fun b H1 ph1 x1 s1 hk r => ⟨a, ph1, w', r, h.ext x1 s1 hk, hp⟩
  | ex c ns xs w' =>
    rw [et] at hp
    exact fun dd H1 ph1 vs x1 s1 hk hd l rv => hp σ H1 ph1 dd vs (h.ext x1 s1 hk) hd l rv
  | bad => rw [et] at hp; exact (show False from hp).elim
end
def rDis (K : PySem.W.Frag) (t : L2.TSet) : L2.TSet := fun o i v H Q => Dis K H → t o i v H Q
theorem pset_dis {X : Cx} {t : L2.TSet} (h : L2.PSet X t) : L2.PSet X (rDis X.K t) := fun pins s σ H o i v ov iv u Q I r1 r2 r3 hq =>
  h pins s σ H o i v ov iv u Q I r1 r2 r3 (hq fun a o e => k_free I e)
end FL
namespace FL
open PySem
open L2 (V Hp HO Cx Inv VK XK TE TT TA TS TI TG PE PT PA PS PSs PI PG Ends WX RelV Vals Rd upd upd_same upd_ne ne_of_none EP TP AP OpR R2 CallR FnOk Room Binds)
theorem RepL.of_get {K : PySem.W.Frag} {cm : Nat → Addr} {H : Hp} {N : NS} {ph : Option Addr} : ∀ (ds : List D) (vs : List V), ds.length = vs.length → (∀ (i : Nat) d v, ds[i]? = some d → vs[i]? = some v → Rep K cm H N ph d v) → RepL K cm H N ph ds vs
  | [], [], _, _ => RepL.nil
  | d :: ds, v :: vs, l, h => RepL.cons (h 0 d v rfl rfl) (RepL.of_get ds vs (by simpa using l) fun i d v e1 e2 => h (i + 1) d v (by simpa using e1) (by simpa using e2))
  | [], _ :: _, l, _ => by cases l
  | _ :: _, [], l, _ => by cases l
def noTI (t : List D) : D → Bool
  | .lst ys => noTL t ys
  | d => noT t d
def p2S (i m n : Nat) (ds xs : List D) (d : D) (ρ : Env) (w : Wd) : SR :=
  if (noT xs d && noTL xs xs && unlL xs ds && ds.all (noTI xs) && okT xs ρ w) = true then .nx ((wipT xs ρ).set i (.nest (ds.set m (.lst (xs.set n d))))) w else .bad
def p2K (i : Nat) (ρ : Env) : List D → Wd → SR
  | [d, .int j, .int k], w => (match ρ[i]? with
    | some (.nest ds) => (match ixP ds.length j with
      | some m => (match ds[m]? with
        | some (.lst xs) => (match ixP xs.length k with
          | some n => p2S i m n ds xs d ρ w
          | none => .bad)
        | _ => .bad)
      | none => .bad)
    | _ => .bad)
  | _, _ => .bad
def sPut2 (i : Nat) (fj fk fe : EF) : SF := fun ρ w => match ρ[i]? with
  | some (.nest ds) => onE (M.bind (fe ρ) fun d => M.bind (fj ρ) fun j => M.bind (ixL ds j) fun _ => M.bind (fk ρ) fun k => M.ret [d, j, k]) ρ w (p2K i ρ)
  | _ => .bad
section
variable {K : PySem.W.Frag} {cm : Nat → Addr} {xa : Option (Addr × Nat × Addr)} {q : Sq} {ρ : Env} {σ : St} {H : Hp} {ph : Option Addr} {w : Wd} {Wx : WX} {D : Ends}
end
section
variable {X : Cx} {c : Cfg} {q : Sq} {pos : Pos}
end
end FL
namespace FL
open PySem
open L2 (It V Hp HO Cx Inv VK XK TE TT TA TS TI TG PE PT PA PS PSs PI PG Ends WX RelV Vals Rd upd upd_same upd_ne ne_of_none EP TP AP OpR R2 CallR FnOk Room Binds)
def NewL (H0 : Hp) (vs : List V) : Prop := vs.Nodup ∧ ∀ v ∈ vs, ∃ b, v = .ref b ∧ H0 b = none
theorem nd_inj {vs : List V} (n : vs.Nodup) {i j : Nat} {v : V} (e1 : vs[i]? = some v) (e2 : vs[j]? = some v) : i = j := by
  obtain ⟨h1, e1⟩ := List.getElem?_eq_some_iff.mp e1
  obtain ⟨h2, e2⟩ := List.getElem?_eq_some_iff.mp e2
  rcases Nat.lt_trichotomy i j with h | h | h
  · exact absurd (e1.trans e2.symm) (List.pairwise_iff_getElem.mp n i j h1 h2 h)
  · exact h
  · exact absurd (e2.trans e1.symm) (List.pairwise_iff_getElem.mp n j i h2 h1 h)
def AllL (ds : List D) : Prop := ∀ d ∈ ds, ∃ xs, d = .lst xs
section
variable {K : PySem.W.Frag} {cm : Nat → Addr} {xa : Option (Addr × Nat × Addr)} {O : NS} {H H' H0 : Hp} {N : NS} {ph ph' : Option Addr} {w w' : Wd}
def Grow (H H' : Hp) : Prop := ∀ b, H' b = none → H b = none
theorem Grow.trans {H1 H2 H3 : Hp} (x : Grow H1 H2) (y : Grow H2 H3) : Grow H1 H3 := fun b e => x b (y b e)
theorem grow_all (h : ∀ b o, H b = some o → H' b = some o) : Grow H H' := fun b e => by
  cases z : H b with
  | none => rfl
  | some o => rw [h b o z] at e; cases e
theorem grow_upd {p : Addr} {o : HO} : Grow H (upd H p o) := fun b e => by
  by_cases z : b = p
  · subst z; rw [upd_same] at e; cases e
  · rw [upd_ne z] at e; exact e
theorem grow_ext (x : Ext ph H H') (s : PhS H ph ph') (hk : HandOk K cm H' O ph' w') : Grow H H' := fun b e => by
  cases z : H b with
  | none => rfl
  | some o =>
    by_cases c : ph = some b
    · obtain ⟨vs, y⟩ := hk.tr (s.m b c)
      rw [e] at y; cases y
    · rw [x b o c z] at e; cases e
theorem relL_refs {ds : List D} {vs : List V} (al : AllL ds) (r : RepL K cm H N ph ds vs) {v : V} (hv : v ∈ vs) : ∃ b us, v = .ref b ∧ H b = some (.lst us) := by
  obtain ⟨i, hi, e⟩ := List.mem_iff_getElem.mp hv
  have hd : i < ds.length := by rw [r.length]; exact hi
  obtain ⟨xs, ex⟩ := al ds[i] (List.getElem_mem hd)
  obtain ⟨v', e2, r2⟩ := r.get (List.getElem?_eq_getElem hd)
  rw [List.getElem?_eq_getElem hi, e] at e2
  cases e2
  rw [ex] at r2
  obtain ⟨b, us, e3, ⟨_, t⟩, _⟩ := lst_of r2
  exact ⟨b, us, e3, t⟩
theorem NewL.snoc {ds : List D} {vs : List V} {p : Addr} (n : NewL H0 vs) (al : AllL ds) (r : RepL K cm H N ph ds vs) (hp : H p = none) (hp0 : H0 p = none) : NewL H0 (vs ++ [.ref p]) := by
  refine ⟨List.nodup_append.mpr ⟨n.1, List.pairwise_singleton _ _, fun a ha b hb e => ?_⟩, fun v hv => ?_⟩
  · rw [List.mem_singleton] at hb
    subst e
    subst hb
    obtain ⟨b, us, e, t⟩ := relL_refs al r ha
    cases e
    rw [hp] at t; cases t
  · rcases List.mem_append.mp hv with h | h
    · exact n.2 v h
    · exact ⟨p, List.mem_singleton.mp h, hp0⟩
end
abbrev relLN (K : PySem.W.Frag) (cm : Nat → Addr) (O : NS) (H0 : Hp) : Hp → Option Addr → List D → List V → Prop := fun H ph ds vs => RepL K cm H (OO O ph) ph ds vs ∧ AllL ds ∧ NewL H0 vs
def tNN (K : PySem.W.Frag) (cm : Nat → Addr) (xa : Option (Addr × Nat × Addr)) (Wx : WX) (f : NF) : TE := fun σ H Q => ∃ O ρ ph w, Run K cm xa O (relLN K cm O H) Wx ρ σ ph H w (f ρ) (fun vs H1 => ∀ p, H1 p = none → Q (.ref p) (upd H1 p (.lst vs)))
section
variable {X : Cx} {c : Cfg} {q : Sq}
theorem lc_readN {own : List (Str × Nat)} {f : IF} {g : GF} {gt : TG} {is : List Nat} {t : TF} {fe : NF} (his : own.map (·.2) = is) (hG : TGX X.K c.cm g gt is) : ∀ σ H Q, tNN X.K c.cm c.xa c.Wx (nLc f is g t (eNew fe)) σ H Q →
    L2.tLc (fun σ H R => ∃ O ρ ph w, Run X.K c.cm c.xa O (relI X.K c.cm O) c.Wx ρ σ ph H w (f ρ) R) gt (tTX X.K c.cm c.xa noW t) (tNX X.K c.cm c.xa noW fe) (own.map (·.2)) σ H Q := fun σ H Q ⟨O, ρ, ph, w, h⟩ => by
    subst his
    have gh := h.hand
    refine ⟨O, ρ, ph, w, (Run.bind (rel := relI X.K c.cm O) h).imp fun J H1 ⟨xs, ph1, w1, e1, s1, ⟨C, hC, F⟩, h1⟩ D hD => ?_⟩
    have G1 : Grow H H1 := grow_ext e1 s1 h1.hand
    by_cases hl : xs.length ≤ line
    · simp only [if_pos hl] at h1
      obtain ⟨G, Y, hw, hCG, hY⟩ := F.walk
      obtain ⟨L0, nd⟩ := LcS.start (is := own.map (·.2)) hD h1.env h1.hand
      refine L2.lc_it hw (fun i H' => ∃ ds ph' w', LcS X.K c.cm c.xa O D (wipeE ρ (own.map (·.2))) (L2.wipe σ (own.map (·.2))) ph' w' ds i H' ∧ C H' (OO (addO O D) ph') ph' ∧ (AllL ds ∧ (∀ vs, H' D = some (.lst vs) → NewL H vs) ∧ Grow H H') ∧
        Post1 X.K c.cm O (relLN X.K c.cm O H) c.Wx σ ph' (delD H' D) (fun vs H1 => ∀ p, H1 p = none → Q (.ref p) (upd H1 p (.lst vs))) (M.bind (lcL g t (eNew fe) (wipeE ρ (own.map (·.2))) (xs.drop i)) (fun ys => M.ret (ds ++ ys)) w')) ?_ (fun i H' _ ⟨ds, ph', w', _, hC', _⟩ => hCG _ _ _ hC') ?_ ?_
      · refine ⟨[], ph1, w1, L0, F.stay hC (addO_new hD) (fun _ e => e), ⟨fun _ z => (nomatch z), fun vs e => ?_, G1.trans grow_upd⟩, ?_⟩
        · rw [upd_same] at e
          cases e
          exact ⟨List.nodup_nil, fun _ z => (nomatch z)⟩
        rw [del_upd hD, List.drop_zero]
        have e : M.bind (lcL g t (eNew fe) (wipeE ρ (own.map (·.2))) xs) (fun ys => M.ret ([] ++ ys)) = lcL g t (eNew fe) (wipeE ρ (own.map (·.2))) xs := by
          have : (fun ys : List FL.D => M.ret ([] ++ ys)) = M.ret := by funext ys; rw [List.nil_append]
          rw [this, bind_ret]
        rw [e]; exact h1.post
      · rintro i x H2 H3 hi ⟨ds, ph2, w2, L, hC2, ⟨al, nw, gr⟩, hp2⟩ y
        have ex : xs[i]? = some xs[i] := List.getElem?_eq_getElem hi
        obtain ⟨kx, rx⟩ := hY i xs[i] H2 (OO (addO O D) ph2) ph2 x H3 hC2 (fun p hpn => fresh_oo L.env.tr L.hand hpn) ex y
        have xt : Ext ph2 H2 H3 := fun b o _ e => kx b o e
        have hh3 : HandOk X.K c.cm H3 (addO O D) ph2 w2 := L.hand.keep (Ext.keep xt .refl) fun p _ o e => kx p o e
        have L3 := L.ext xt .refl hh3
        have hC3 := F.stay hC2 (Ext.keep xt .refl) (fun _ e => e)
        have hp3 := hp2.ext (del_ext (D := D) xt) .refl
        have gr3 : Grow H H3 := gr.trans (grow_all kx)
        have nD : ∀ {ph' : Option Addr} {ρ' : Env} {σ' : St} {w' : Wd} {ds' : List FL.D} {n : Nat} {H' : Hp}, LcS X.K c.cm c.xa O D ρ' σ' ph' w' ds' n H' → ph' ≠ some D := fun L => (L.env.tr D (.inr rfl)).1
        obtain ⟨vsD, hD2, _, _⟩ := L.acc
        have hD3 : H3 D = some (.lst vsD) := kx D _ hD2
        have ed : xs.drop i = xs[i] :: xs.drop (i + 1) := List.drop_eq_getElem_cons hi
        rw [ed] at hp3
        cases eg : g xs[i] (wipeE ρ (own.map (·.2))) with
        | none => unfold lcL at hp3; rw [eg] at hp3; exact (show False from hp3).elim
        | some ρ1 =>
          obtain ⟨ts, e2, hts, hq⟩ := hG rx eg
          refine hq (L2.wipe σ (own.map (·.2))) _ ?_
          refine ⟨wipe_puts fun t m => (hts t m).1, addO O D, ρ1, ph2, w2, ?_⟩
          have E3 : EnvE X.K c.cm c.xa (addO O D) H3 ph2 ρ1 (putS ts (L2.wipe σ (own.map (·.2)))) := by rw [e2]; exact L3.env.puts ts fun t m => (hts t m).2
          refine ⟨E3, hh3, ?_⟩
          cases et : t ρ1 w2 with
          | ex => rw [lcL_badt eg (by rw [et]; intro _ _ z; cases z)] at hp3; exact (show False from hp3).elim
          | bad => rw [lcL_badt eg (by rw [et]; intro _ _ z; cases z)] at hp3; exact (show False from hp3).elim
          | ok k w3 =>
            intro b H4 ph4 x4 s4 k4 eb
            cases eb
            have L4 := L3.ext x4 s4 k4
            have hC4 := F.stay hC3 (Ext.keep x4 s4) s4.m
            have hp4 := hp3.ext (del_ext (D := D) x4) (del_phs s4)
            have gr4 : Grow H H4 := gr3.trans (grow_ext x4 s4 k4)
            have hD4 : H4 D = some (.lst vsD) := x4 D _ (nD L3) hD3
            cases k with
            | false =>
              rw [lcL_false eg et] at hp4
              obtain ⟨vs, h1', h2', h3'⟩ := L4.acc
              refine ⟨ds, ph4, w3, ⟨L4.env, L4.hand, vs, h1', h2', Nat.le_succ_of_le h3'⟩, hC4, ⟨al, fun vs' e => ?_, gr4⟩, hp4⟩
              rw [hD4] at e
              cases e
              exact nw vsD hD2
            | true =>
              refine ⟨addO O D, ρ1, ph4, w3, E3.ext x4 s4, k4, ?_⟩
              cases ee : fe ρ1 w3 with
              | ex => rw [lcL_bade eg et (by unfold eNew M.bind; rw [ee]; intro _ _ z; cases z)] at hp4; exact (show False from hp4).elim
              | bad => rw [lcL_bade eg et (by unfold eNew M.bind; rw [ee]; intro _ _ z; cases z)] at hp4; exact (show False from hp4).elim
              | ok zs w5 =>
                have ee2 : eNew fe ρ1 w3 = .ok (.lst zs) w5 := by unfold eNew M.bind; rw [ee]; rfl
                rw [lcL_true eg et ee2] at hp4
                intro us H5 ph5 x5 s5 k5 rv p hpn
                have L5 := L4.ext x5 s5 k5
                have hC5 := F.stay hC4 (Ext.keep x5 s5) s5.m
                have hp5 := hp4.ext (del_ext (D := D) x5) (del_phs s5)
                have gr5 : Grow H H5 := gr4.trans (grow_ext x5 s5 k5)
                have hD5 : H5 D = some (.lst vsD) := x5 D _ (nD L4) hD4
                -- the new list
                have xp : Ext ph5 H5 (upd H5 p (.lst us)) := ext_new hpn
                have kp : HandOk X.K c.cm (upd H5 p (.lst us)) (addO O D) ph5 w5 := k5.new hpn
                have L6 := L5.ext xp .refl kp
                have hC6 := F.stay hC5 (Ext.keep xp .refl) (fun _ e => e)
                have hp6 := hp5.ext (del_ext (D := D) xp) .refl
                have nf : ¬ OO (addO O D) ph5 p := fresh_oo L5.env.tr L5.hand hpn
                have rp : Rep X.K c.cm (upd H5 p (.lst us)) (OO (addO O D) ph5) ph5 (.lst zs) (.ref p) := by
                  simp only [Rep]
                  exact ⟨p, us, rfl, ⟨nf, upd_same⟩, rv.keep (Ext.keep xp .refl) (fun _ e => e) zs us⟩
                obtain ⟨vs, h1', h2', h3'⟩ := L6.acc
                have pD : D ≠ p := fun z => by rw [z, hpn] at hD5; cases hD5
                have hvs : vs = vsD := by
                  rw [upd_ne pD, hD5] at h1'
                  cases h1'; rfl
                subst hvs
                have dup : ∀ (u : V), upd (upd H5 p (.lst us)) D (.lst (vs ++ [u])) D = some (.lst (vs ++ [u])) := fun u => upd_same
                obtain ⟨vs5, g1, g2, _⟩ := L5.acc
                have hv5 : vs5 = vs := by rw [hD5] at g1; cases g1; rfl
                subst hv5
                refine ⟨vs5, h1', by rw [sizeLine_eq]; unfold line at hl; omega, ds ++ [.lst zs], ph5, w5, L6.app nd h1' h2' h3' rp, F.stay hC6 addO_upd (fun _ e => e), ⟨fun d hd => ?_, fun vs' e => ?_, (gr5.trans grow_upd).trans grow_upd⟩, ?_⟩
                · rcases List.mem_append.mp hd with hd | hd
                  · exact al d hd
                  · exact ⟨zs, List.mem_singleton.mp hd⟩
                · rw [upd_same] at e
                  cases e
                  exact (nw vs5 hD2).snoc al g2 hpn (gr5 p hpn)
                have e9 : delD (upd (upd H5 p (.lst us)) D (.lst (vs5 ++ [.ref p]))) D = delD (upd H5 p (.lst us)) D := by
                  funext b
                  by_cases z : b = D
                  · subst z; rw [delD_same, delD_same]
                  · rw [delD_ne z, delD_ne z, upd_ne z]
                rw [e9]
                have e10 : (fun ys : List FL.D => M.ret (ds ++ .lst zs :: ys)) = fun ys => M.ret (ds ++ [.lst zs] ++ ys) := by
                  funext ys
                  rw [List.append_assoc]; rfl
                rw [e10] at hp6
                exact hp6
      · rintro H2 ⟨ds, ph2, w2, L, hC2, ⟨al, nw, gr⟩, hp2⟩
        rw [List.drop_length] at hp2
        have hp3 : Post1 X.K c.cm O (relLN X.K c.cm O H) c.Wx σ ph2 (delD H2 D) (fun vs H1 => ∀ p, H1 p = none → Q (.ref p) (upd H1 p (.lst vs))) (.ok ds w2) := by
          have e : M.bind (lcL g t (eNew fe) (wipeE ρ (own.map (·.2))) []) (fun ys => M.ret (ds ++ ys)) w2 = .ok ds w2 := by
            show R.ok (ds ++ []) w2 = _
            rw [List.append_nil]
          rw [← e]; exact hp2
        obtain ⟨vs, h1', h2', _⟩ := L.acc
        have nph : ph2 ≠ some D := (L.env.tr D (.inr rfl)).1
        have := hp3 vs (delD H2 D) ph2 .refl .refl (L.hand.keep addO_keep fun p e u z => by rw [delD_ne (fun y => nph (by rw [← y]; exact e))]; exact z) ⟨h2'.keep addO_keep (fun _ e => e) ds vs, al, nw vs h1'⟩ D delD_same
        rw [upd_del h1'] at this
        exact this
    · simp only [if_neg hl] at h1; exact h1.no
end
def sNest (i : Nat) (f : NF) : SF := fun ρ w => onE (f ρ) ρ w fun ds w' => .nx (ρ.set i (.nest ds)) w'
section
variable {K : PySem.W.Frag} {cm : Nat → Addr} {xa : Option (Addr × Nat × Addr)} {q : Sq} {ρ : Env} {σ : St} {H : Hp} {ph : Option Addr} {w : Wd}
theorem StS.old (h : StS K cm xa q ρ ph w σ H) {p : Addr} (hp : H p = none) : q.B p = none := by
  have nph : ph ≠ some p := fun e => by
    obtain ⟨vs, z⟩ := h.hand.tr e
    rw [hp] at z; cases z
  cases e : q.B p with
  | none => rfl
  | some o =>
    by_cases z : q.ph0 = some p
    · rcases h.phs with y | ⟨y, _⟩
      · exact absurd (y.trans z) nph
      · rw [y] at z; cases z
    · rw [h.base p o z e] at hp; cases hp
end
section
variable {X : Cx} {c : Cfg} {q : Sq}
theorem nest_tail {D : Ends} {ρ : Env} {σ : St} {H0 H1 : Hp} {ph0 ph1 : Option Addr} {w0 w1 : Wd} {i : Nat} {ds : List FL.D} {vs : List V} {p : Addr} (h0 : StS X.K c.cm c.xa q ρ ph0 w0 σ H0) (h1 : StS X.K c.cm c.xa q ρ ph1 w1 σ H1) (r : RepL X.K c.cm H1 (NN q ρ σ ph1) ph1 ds vs) (al : AllL ds) (nw : NewL H0 vs) (hpn : H1 p = none)
    (hp1 : Post2 X.K c.cm c.xa q c.Wx D H1 (NN q ρ σ ph1) ph1 (.nx (ρ.set i (.nest ds)) w1)) : D.nx (σ.set i (some (.ref p))) (upd H1 p (.lst vs)) := by
  have x : Ext ph1 H1 (upd H1 p (.lst vs)) := ext_new hpn
  have h2 := h1.ext x .refl (h1.hand.new hpn)
  have nf : ¬ NN q ρ σ ph1 p := fresh_oo h1.env.tr h1.hand hpn
  have rp : Rep X.K c.cm (upd H1 p (.lst vs)) (NN q ρ σ ph1) ph1 (.lst ds) (.ref p) := by
    simp only [Rep]
    exact ⟨p, vs, rfl, ⟨nf, upd_same⟩, r.keep (Ext.keep x .refl) (fun _ e => e) ds vs⟩
  have h3 := h2.setvn (i := i) (s := .nest ds) (x := some (.ref p)) (fun _ z => by cases z) (fun ds' v z1 z2 => by
    cases z1
    cases z2
    refine ⟨p, vs, rfl, h1.old hpn, upd_same, fun k xs e => ?_⟩
    obtain ⟨v, ev, rv⟩ := r.get e
    obtain ⟨b, eb, hb⟩ := nw.2 v (List.mem_of_getElem? ev)
    subst eb
    refine ⟨b, ev, h0.old hb, fun j ej => ?_⟩
    exact nd_inj nw.1 ev ej) ⟨.ref p, rfl, rp⟩
  exact hp1 _ _ ph1 h3 ((Ext.keep x .refl).kp.trans (keep_set fun _ z => by cases z).kp)
variable {i : Nat} {y : Str} {py : Pos} {elt tg iter : Expr} {ifs : List Expr} {scope : Scope} {own : List (Str × Nat)} {pos spos : Pos} {f : IF} {g : GF} {gt : TG} {is : List Nat} {t : TF} {fe : NF}
theorem psx_nestLc (hc : X.calm = true) (hN : X.N.Nodup) (hy : X.N[i]? = some y) (hyl : X.env.scope.names.lookup y = some .local) (hsw : swapsWith (.ListComp elt [⟨tg, iter, ifs, 0⟩] scope pos) (some (.Name y py)) spos.line X.env = pure true)
    (hi : PIX X c tg iter f) (ok : L2.BlkOk X.N X.env.scope scope own) (his : own.map (·.2) = is) (hg : ∀ (s : Shared) (H : Hp) (C : Addr) (cl : List (Str × Addr)) (fp : List Addr), PG (X.blk s H scope (compEnvC scope cl C X.env) fp) tg gt) (hG : TGX X.K c.cm g gt is)
    (ht : ∀ (s : Shared) (H : Hp) (C : Addr) (cl : List (Str × Addr)) (fp : List Addr), PTSX (X.blk s H scope (compEnvC scope cl C X.env) fp) ⟨c.cm, c.xa, noW⟩ ifs t)
    (he : ∀ (s : Shared) (H : Hp) (C : Addr) (cl : List (Str × Addr)) (fp : List Addr), PNX (X.blk s H scope (compEnvC scope cl C X.env) fp) ⟨c.cm, c.xa, noW⟩ elt fe) (hs : ∀ x, foldedSetIterable iter X.env x = pure x := by intro _; rfl) :
    PSX X c q (.Assign [.Name y py] (.ListComp elt [⟨tg, iter, ifs, 0⟩] scope pos) spos) (sNest i (nLc f is g t (eNew fe))) :=
  PS.to (L2.ps_setLc hc hN hy hyl hsw hi ok hg ht he hs) fun D σ H ⟨ρ, ph, w, h, hp⟩ => by
    have rr : Run X.K c.cm c.xa (OwnS q.O0 ρ σ) (relLN X.K c.cm (OwnS q.O0 ρ σ) H) c.Wx ρ σ ph H w (nLc f is g t (eNew fe) ρ) _ := onE_run h hp
    exact lc_readN his hG σ H _ ⟨_, ρ, ph, w, rr.imp fun vs H1 ⟨ds, ph1, w1, ⟨r, al, nw⟩, h1, k, hp1⟩ p hpn => nest_tail h h1 r al nw hpn hp1⟩
end
end FL
namespace FL
open PySem
open L2 (It V Hp HO Cx Inv VK XK TE TT TA TS TI TG PE PT PA PS PSs PI PG Ends WX RelV Vals Rd upd upd_same upd_ne ne_of_none EP TP AP OpR R2 CallR FnOk Room Binds)
abbrev relR (K : PySem.W.Frag) (cm : Nat → Addr) : Hp → Option Addr → List D → It → Prop := fun _ _ xs J => Feeds K cm J xs (fun _ _ _ => True)
abbrev PIRX (X : Cx) (c : Cfg) (tg iter : Expr) (f : IF) : Prop := PI X tg iter (fun σ H R => ∃ O ρ ph w, Run X.K c.cm c.xa O (relR X.K c.cm) c.Wx ρ σ ph H w (f ρ) R)
section
variable {X : Cx} {c : Cfg} {q : Sq} {pos : Pos} {K : PySem.W.Frag} {cm : Nat → Addr} {O : NS} {H : Hp} {ph : Option Addr} {w : Wd} {Wx : WX} {ρ : Env} {σ : St}
theorem range_runR {xa O Wx ρ σ ph H w} {R : It → Hp → Prop} {d1 d2 : D} {v1 v2 : V} (r1 : Rep K cm H (OO O ph) ph d1 v1) (r2 : Rep K cm H (OO O ph) ph d2 v2) (h : Run K cm xa O (relR K cm) Wx ρ σ ph H w (rangeM d1 d2) R) :
    ∃ i j : Int, v1 = .int i ∧ v2 = .int j ∧ (-(2 ^ 62) ≤ i ∧ i < 2 ^ 62 ∧ -(2 ^ 62) ≤ j ∧ j < 2 ^ 62) ∧ R (L2.Itr i (j - i).toNat) H := by
  cases d1 <;> cases d2 <;> try exact h.no
  rename_i i j
  by_cases hb : (near i && near j) = true
  · simp only [rangeM, if_pos hb] at h
    have hc : -(2 ^ 62) ≤ i ∧ i < 2 ^ 62 ∧ -(2 ^ 62) ≤ j ∧ j < 2 ^ 62 := by
      rw [Bool.and_eq_true] at hb
      exact ⟨(near_of hb.1).1, (near_of hb.1).2, (near_of hb.2).1, (near_of hb.2).2⟩
    exact ⟨i, j, int_of r1, int_of r2, hc, h.ret feeds_range⟩
  · simp only [rangeM, if_neg hb] at h; exact h.no
theorem pirx_range1 {tg a : Expr} {fa : EF} {p : Pos} (hg : L2.Gl X "range") (hm : X.mg "range" = none) (ha : PX X c a fa) (hs : starEach [a] X.env = [(false, eval a X.env)] := by rfl) (he : starEach (a :: []) X.env = (false, eval a X.env) :: starEach [] X.env := by rfl) :
    PIRX X c tg (.Call (.Name "range" p) [a] [] pos) (iRng (eC (.int 0)) fa) :=
  PI.to (L2.pi_range1 hg hm (L2.pa_cons ha L2.pa_nil he) hs) fun σ H R ⟨O, ρ, ph, w, h⟩ => by
    have h' : Run X.K c.cm c.xa O (relR X.K c.cm) c.Wx ρ σ ph H w (M.bind (fa ρ) fun y => rangeM (.int 0) y) R := h
    refine ⟨O, ρ, ph, w, (Run.bind (rel := relV X.K c.cm O) h').imp fun v2 H2 ⟨d2, ph2, w2, e2, s2, r2, h2⟩ => ?_⟩
    obtain ⟨i, j, ei, rfl, hb, q⟩ := range_runR (v1 := .int 0) (by simp [Rep]) r2 h2
    cases ei
    refine ⟨j, rfl, hb.2.2.1, hb.2.2.2, ?_⟩
    have e0 : j - 0 = j := Int.sub_zero j
    rw [e0] at q; exact q
theorem psy_for {tg iter : Expr} {body : List Stmt} {f : IF} {g : GF} {gt : TG} {is : List Nat} {b : SF} (hp : PassesOwn (model X.prog X.w) X.A X.env X.xe) (hc : X.calm = true) (hi : PIRX X c tg iter f) (hg : PG X tg gt) (hG : TGX X.K c.cm g gt is) (hb : PSSY X c q body b)
    (hs : ∀ x, foldedSetIterable iter X.env x = pure x := by intro _; rfl) : PSY X c q (.For tg iter body [] pos) (sFor f g b) :=
  PS.to (L2.ps_for hp hc hi hg hb hs) fun D σ H ⟨ρ, ph, w, h, hpo⟩ => by
    refine ⟨_, ρ, ph, w, (onE_run3 (rel := relR X.K c.cm) h hpo).imp fun J H1 ⟨xs, ph1, w1, F, h1, hp1⟩ => ?_⟩
    obtain ⟨G, Y, hw, hCG, hY⟩ := F.walk
    refine L2.for_it hw (fun i σ' H' => ∃ ρ' ph' w', StS X.K c.cm c.xa q ρ' ph' w' σ' H' ∧ Post3 X.K c.cm c.xa q c.Wx D (forL g b (xs.drop i) ρ' w')) ⟨ρ, ph1, w1, h1, hp1⟩ (fun i σ' H' _ _ => hCG H' (fun _ => False) none trivial) ?_ ?_
    · rintro i x σ2 H2 H3 hi ⟨ρ2, ph2, w2, h2, hp2⟩ y
      have ex : xs[i]? = some xs[i] := List.getElem?_eq_getElem hi
      obtain ⟨kx, rx⟩ := hY i xs[i] H2 (NN q ρ2 σ2 ph2) ph2 x H3 trivial (fun p hpn => fresh_oo h2.env.tr h2.hand hpn) ex y
      have xt : Ext ph2 H2 H3 := fun b o _ e => kx b o e
      have hh3 : HandOk X.K c.cm H3 (OwnS q.O0 ρ2 σ2) ph2 w2 := h2.hand.keep (Ext.keep xt .refl) fun p _ o e => kx p o e
      have h3 := h2.ext xt .refl hh3
      have ed : xs.drop i = xs[i] :: xs.drop (i + 1) := List.drop_eq_getElem_cons hi
      rw [ed] at hp2
      cases eg : g xs[i] ρ2 with
      | none => rw [forL_none eg] at hp2; exact (show False from hp2).elim
      | some ρ3 =>
        rw [forL_cons eg] at hp2
        obtain ⟨ts, rfl, ht, hq⟩ := hG rx eg
        obtain ⟨h4, k4⟩ := StS.puts ts (fun t m => (ht t m).2) h3
        refine hq σ2 _ ⟨_, ph2, w2, h4, ?_⟩
        revert hp2
        cases eb : b (putE ts ρ2) w2 with
        | nx ρ5 w5 => exact fun hp4 σ5 H5 ph5 h5 => ⟨ρ5, ph5, w5, h5, hp4⟩
        | ct ρ5 w5 => exact fun hp4 σ5 H5 ph5 h5 => ⟨ρ5, ph5, w5, h5, hp4⟩
        | bk ρ5 w5 => exact fun hp4 => hp4
        | rt d w5 => exact fun hp4 => hp4
        | ex c ns xs ρ5 w5 => exact fun hp4 => hp4
        | bad => exact fun hp4 => hp4
    · rintro σ2 H2 ⟨ρ2, ph2, w2, h2, hp2⟩
      rw [List.drop_length] at hp2
      exact hp2 σ2 H2 ph2 h2
end
def pTS (i n : Nat) (xs : List D) (d : D) (ρ : Env) (w : Wd) : SR :=
  if (noT xs d && noTL xs xs && okT xs ρ w) = true then .nx ((wipT xs ρ).set i (.val (.lst (xs.set n d)))) w else .bad
def pTK (i : Nat) (ρ : Env) : List D → Wd → SR
  | [d, .int k], w => (match ρ[i]? with
    | some (.val (.lst xs)) => (match ixP xs.length k with
      | some n => pTS i n xs d ρ w
      | none => .bad)
    | _ => .bad)
  | _, _ => .bad
def sPutT (i : Nat) (fk fe : EF) : SF := fun ρ w => match ρ[i]? with
  | some (.val (.lst _)) => onE (M.bind (fe ρ) fun d => M.bind (fk ρ) fun k => M.ret [d, k]) ρ w (pTK i ρ)
  | _ => .bad
section
variable {K : PySem.W.Frag} {cm : Nat → Addr} {xa : Option (Addr × Nat × Addr)} {q : Sq} {ρ : Env} {σ : St} {H : Hp} {ph : Option Addr} {w : Wd} {Wx : WX} {D : Ends}
end
section
variable {X : Cx} {c : Cfg} {q : Sq} {pos : Pos}
end
section
variable {P : Program} {w : World} {K : PySem.W.Frag} {mg : Str → Option Value} {base : Heap} {cm : Nat → Addr}
theorem fn_okY {x qual : Str} {params : Arguments} {body : List Stmt} {scope : Scope} {dvs : List V} {kws : List (Str × V)} {f : Addr} {fd : FuncData} {N ps : List Str} {k : Nat} {b : SF} (F : L2.FunD K x qual params body scope dvs kws f fd) (S : L2.FnScope N ps scope)
    (hn : ps.length ≤ N.length)
    (hb : ∀ (cdv : Value) (A : Around) (outer : List PySem.Env) (s : Shared) (H : Hp) (E : XK) (q : Sq), Room k (A.deeper (PyProof.Rows.envOfC qual scope s.heap.objs.size f cdv)) →
      PSSY (L2.cxOf (L2N.CX P w) P w K mg base N qual scope f cdv A outer s H E) ⟨cm, none, fun cls d _ H' => E cls d H'⟩ q body b) :
    FnOk P w K mg base (L2N.CX P w) (k + 1) f fd ps (spX K cm ps.length (callF N.length b)) := by
  refine F.ok S (fun vs H Q E h => h.1) fun cdv A outer s H vs Q E hr h => ?_
  obtain ⟨hl, O, ds, ph, wd, tr, hand, r, post⟩ := h
  refine ⟨_, hb cdv A outer s H E ⟨H, O, ph⟩ hr, vals ds ++ List.replicate (N.length - ds.length) Slot.none, ph, wd, start_sts (by rw [r.length, hl]; exact hn) tr hand r, ?_⟩
  unfold callF at post
  cases e : b (vals ds ++ List.replicate (N.length - ds.length) Slot.none) wd with
  | nx ρ' w' =>
    rw [e] at post
    intro σ' H' ph' s1
    exact post .non H' ph' s1.base s1.phs (s1.hand.less fun _ z => .inl z) (by simp [Rep])
  | rt d w' =>
    rw [e] at post
    intro v H' ph' x1 s1 hk rv
    exact post v H' ph' x1 s1 hk rv
  | ex c ns xs ρ' w' =>
    rw [e] at post
    intro σ' H' ph' dd vs s1 hd l rv
    exact post dd H' ph' vs s1.base s1.phs (s1.hand.less fun _ z => .inl z) hd l (rv.keep (Keep.less (OO.mono fun _ z => .inl z)) (fun _ e => e) xs vs)
  | bk ρ' w' => rw [e] at post; exact (show False from post).elim
  | ct ρ' w' => rw [e] at post; exact (show False from post).elim
  | bad => rw [e] at post; exact (show False from post).elim
theorem has_ofY {x : Str} {st : Stmt} {N ps : List Str} {k m n : Nat} {b : SF} (hd : ∃ f fd, DefAt K mg x st [] f fd) (S : L2.FnScope N ps (L2.defScope st)) (hps : ps.length = m) (hN : N.length = n) (hmn : m ≤ n)
    (hb : ∀ (kV doc pm : Value) (an : Option Addr) (cdv ct : Value) (us : List Value), us.length = ps.length → bindArgs (PySem.W.fnOf x x (L2.defArgs st) (L2.defBody st) (L2.defScope st) .none kV doc pm an cdv ct) ⟨us, []⟩ = pure (ps.zip us))
    (body : ∀ (f : Addr) (cdv : Value) (A : Around) (outer : List PySem.Env) (s : Shared) (H : Hp) (E : XK) (q : Sq), Room k (A.deeper (PyProof.Rows.envOfC x (L2.defScope st) s.heap.objs.size f cdv)) →
      PSSY (L2.cxOf (L2N.CX P w) P w K mg base N x (L2.defScope st) f cdv A outer s H E) ⟨cm, none, fun cls d _ H' => E cls d H'⟩ q (L2.defBody st) b) :
    Has P w K mg base cm x (k + 1) ps [[]] [] m (callF n b) := by
  obtain ⟨f, fd, hm, F⟩ := hd
  subst hps hN
  have G := fn_okY F S hmn fun cdv A outer s H E q hr => body f cdv A outer s H E q hr
  exact ⟨⟨f, fd, hm, F.kp, G, fun dds hm => by
    rw [List.mem_singleton.mp hm]
    exact ⟨[], [], F.bindsN hb, .nil, RepL.nil⟩, fun e he => by cases he⟩, lk_of hm (held_of F) G⟩
end
section
open PySem.Spec PyProof.Rows
variable {P : Program} {w : World} {K : PySem.W.Frag} {mg : Str → Option Value} {base : Heap} {cm : Nat → Addr}
end
section
open PySem.Spec PySem.W PySem.Calls PyProof.Rows
variable {P : Program} {w : World} {K : PySem.W.Frag} {mg mb : Str → Option Value} {f a : Addr} {fd : FuncData} {x : Str} {sp : L2.Sp} {t : Shared} {us : List Value} {ms : List Int}
end
end FL
namespace FL
open PySem
open L2 (It V Hp HO Cx Inv VK XK TE TT TA TS TI TG PE PT PA PS PSs PI PG Ends WX RelV Vals Rd upd upd_same upd_ne ne_of_none EP TP AP OpR R2 CallR FnOk Room Binds)
section
variable {X : Cx} {c : Cfg} {q : Sq} {sts : List Stmt} {t : SF}
end
def tIfE (t a b : TF) : TF := fun ρ => M.bind (t ρ) fun k => if k = true then a ρ else b ρ
def itemsD : D → M (List D)
  | .lst xs | .tup xs => M.ret xs
  | _ => M.fail
def nList (e : EF) : NF := fun ρ => M.bind (e ρ) itemsD
def oneK {β : Type} (k : D → M β) : List D → M β
  | [d] => k d
  | _ => M.fail
theorem evs_one {β : Type} (fe : EF) (k : D → M β) (ρ : Env) : M.bind (fe ρ) k = M.bind (evs [fe] ρ) (oneK k) := by
  funext w
  have e : evs [fe] ρ = M.bind (fe ρ) fun x => M.bind (M.ret []) fun xs => M.ret (x :: xs) := rfl
  rw [e]
  unfold M.bind
  simp only
  cases fe ρ w <;> rfl
section
variable {X : Cx} {c : Cfg} {e : Expr} {fe : EF} {pos p : Pos}
theorem pnx_list (hg : L2.Gl X "list") (hm : X.mg "list" = none) (he : PX X c e fe) (hs : starEach [e] X.env = (false, eval e X.env) :: starEach [] X.env := by rfl) (hpl : (backTo pos (starEach [] X.env)).any (·.1) = false := by rfl) :
    PNX X c (.Call (.Name "list" p) [e] [] pos) (nList fe) :=
  PE.to (L2.pe_callTy L2.call_list_of hg hm bt_list (pax_cons he pax_nil hs) (by decide) (by decide) hs hpl) fun σ H Q ⟨O, ρ, ph, w, h⟩ => by
    have h : Run X.K c.cm c.xa O (relL X.K c.cm O) c.Wx ρ σ ph H w (M.bind (evs [fe] ρ) (oneK itemsD)) (fun vs H1 => ∀ p, H1 p = none → Q (.ref p) (upd H1 p (.lst vs))) := by
      rw [← evs_one]; exact h
    refine ⟨O, ρ, ph, w, (Run.bind (rel := relL X.K c.cm O) h).imp fun vs H1 ⟨ds, ph1, w1, e1, s1, r, h1⟩ => ?_⟩
    match ds, r, h1 with
    | [d], r, h1 =>
      obtain ⟨v, r', rfl, r1, r2⟩ := r.uncons
      cases r2.unnil
      cases d with
      | lst ds =>
        obtain ⟨a, vs, rfl, ⟨_, t⟩, rl⟩ := lst_of r1
        exact ⟨a, vs, rfl, .inl (.inl (.inl t)), h1.ret rl⟩
      | tup ds =>
        obtain ⟨a, vs, rfl, t, rl⟩ := tup_of r1
        exact ⟨a, vs, rfl, .inr t.seq, h1.ret rl⟩
      | _ => exact h1.no
    | [], _, h1 => exact h1.no
    | _ :: _ :: _, _, h1 => exact h1.no
end
end FL
namespace FL
open PySem
open L2 (It V Hp HO Cx Inv VK XK TE TT TA TS TI TG PE PT PA PS PSs PI PG Ends WX RelV Vals Rd upd upd_same upd_ne ne_of_none EP TP AP OpR R2 CallR FnOk Room Binds)
section
variable {P : Program} {w : World} {K : PySem.W.Frag} {mg : Str → Option Value} {base : Heap} {cm : Nat → Addr}
structure PropAt (K : PySem.W.Frag) (C : Addr) (n qual : Str) (st : Stmt) (f : Addr) (fd : FuncData) : Prop where
  at_ : ∃ p, L2.PropOf K C n p f
  F : L2.FunD K n qual (L2.defArgs st) (L2.defBody st) (L2.defScope st) [] [] f fd
structure HasP (P : Program) (w : World) (K : PySem.W.Frag) (mg : Str → Option Value) (base : Heap) (cm : Nat → Addr) (n : Str) (k0 lvl : Nat) (F : List D → M D) : Prop where
  ex : ∃ f fd ps p, FnOk P w K mg base (L2N.CX P w) lvl f fd ps (spX K cm 1 F) ∧ L2.PropOf K (cm k0) n p f ∧ Binds K fd ps []
theorem HasP.up {n : Str} {k0 l l' : Nat} {F : List D → M D} (G : HasP P w K mg base cm n k0 l F) (h : l ≤ l') : HasP P w K mg base cm n k0 l' F := by
  obtain ⟨f, fd, ps, p, g1, g2⟩ := G.ex
  exact ⟨f, fd, ps, p, g1.mono h, g2⟩
end
abbrev PTab := List (Nat × (List D → M D))
def findP (k : Nat) : PTab → Option (List D → M D)
  | [] => none
  | (i, F) :: T => if k = i then some F else findP k T
section
variable {X : Cx} {c : Cfg} {pos : Pos} {e : Expr} {fe : EF}
end
end FL
namespace FL
structure Hd where
  cl : PySem.Value
  at_ : Option Nat
  ts : PySem.Addr → PySem.Value → Option PySem.Addr → L2.TS
section
open PySem PySem.Spec PyProof.Rows L2
inductive HdsA (X : Cx) : List ExceptHandler → List Hd → Prop
  | stop : HdsA X [] []
  | anon {y : Str} {v : Value} {f : Addr → Value → Option Addr → TS} {t0 : Stmt} {ts : List Stmt} {p1 p2 : Pos} {more : List ExceptHandler} {l : List Hd} (nm : Names X y v)
      (go : ∀ (a : Addr) (ob : Obj) (k : Value) (d : Option Addr) (ps : List (Addr × Obj)), L2N.Zn k d ob → (∃ vs, ob.data = .fields vs) → PSs (X.suite a ((a, ob) :: ps)) (t0 :: ts) (f a k d)) (rest : HdsA X more l) :
      HdsA X (.ExceptHandler (some (.Name y p1)) none (t0 :: ts) p2 :: more) (⟨v, none, f⟩ :: l)
  | named {y n : Str} {i : Nat} {v : Value} {f : Addr → Value → Option Addr → TS} {t0 : Stmt} {ts : List Stmt} {p1 p2 : Pos} {more : List ExceptHandler} {l : List Hd} (hN : X.N.Nodup) (hi : X.N[i]? = some n) (hl : X.env.kindOf n = some .local) (nm : Names X y v)
      (go : ∀ (a : Addr) (ob : Obj) (k : Value) (d : Option Addr) (ps : List (Addr × Obj)), L2N.Zn k d ob → (∃ vs, ob.data = .fields vs) → PSs (X.suite a ((a, ob) :: ps)) (t0 :: ts) (f a k d)) (rest : HdsA X more l) :
      HdsA X (.ExceptHandler (some (.Name y p1)) (some n) (t0 :: ts) p2 :: more) (⟨v, some i, f⟩ :: l)
variable {X : Cx} {body : List Stmt} {e0 : ExceptHandler} {es : List ExceptHandler} {l : List Hd} {pos : Pos} {tb : WX → TS} {Wout : WX}
end
end FL
namespace FL
open PySem
open L2 (V Hp HO Cx Inv VK XK TE TT TA TS TI TG PE PT PA PS PSs PI PG Ends WX RelV Vals Rd upd upd_same upd_ne ne_of_none EP TP AP OpR R2 CallR FnOk Room Binds)
def suiteN (r : SR) : SR := match r with
  | .ex _ _ _ _ _ => .bad
  | r => r
structure HdF where
  cs : List Nat
  ks : List Nat
  at_ : Option Nat
  su : SF
def pickH : List HdF → Nat → List Str → List D → Env → Wd → SR
  | [], c, ns, xs, ρ, w => .ex c ns xs ρ w
  | h :: r, c, ns, xs, ρ, w => if c ∈ h.cs then (match h.at_ with | some i => suiteK i (h.su (ρ.set i (.exc c ns xs)) w) | none => suiteN (h.su ρ w)) else if c ∈ h.ks then pickH r c ns xs ρ w else .bad
def sTryM (b : SF) (hs : List HdF) : SF := fun ρ w => match b ρ w with
  | .ex c ns xs ρ' w' => pickH hs c ns xs ρ' w'
  | r => r
section
variable {X : Cx} {c : Cfg} {q : Sq} {pos : Pos}
inductive HdsX (X : Cx) (c : Cfg) (q : Sq) : List ExceptHandler → List HdF → Prop
  | stop : HdsX X c q [] []
  | anon {x : Str} {C : Value} {b0 : Stmt} {suite : List Stmt} {np pos' : Pos} {more : List ExceptHandler} {l : List HdF} {su : SF} (cs ks : List Nat) (hc : L2.Names X x C)
      (yes : ∀ k, k ∈ cs → PySem.W.exmOne X.K (.ref (c.cm k)) C = some true) (no : ∀ k, k ∈ ks → PySem.W.exmOne X.K (.ref (c.cm k)) C = some false)
      (hsu : ∀ (a : Addr) (oe : Obj) (k : Nat) (dd : Addr) (pn : List (Addr × Obj)), k ∈ cs → L2N.Zn (.ref (c.cm k)) (some dd) oe → (∃ vs, oe.data = .fields vs) → PSSX (X.suite a ((a, oe) :: pn)) ⟨c.cm, none, noW⟩ q (b0 :: suite) su)
      (r : HdsX X c q more l) : HdsX X c q (.ExceptHandler (some (.Name x np)) none (b0 :: suite) pos' :: more) (⟨cs, ks, none, su⟩ :: l)
  | named {x n : Str} {i : Nat} {C : Value} {b0 : Stmt} {suite : List Stmt} {np pos' : Pos} {more : List ExceptHandler} {l : List HdF} {su : SF} (cs ks : List Nat) (hN : X.N.Nodup) (hi : X.N[i]? = some n) (hln : X.env.kindOf n = some .local) (hc : L2.Names X x C)
      (yes : ∀ k, k ∈ cs → PySem.W.exmOne X.K (.ref (c.cm k)) C = some true) (no : ∀ k, k ∈ ks → PySem.W.exmOne X.K (.ref (c.cm k)) C = some false)
      (hsu : ∀ (a : Addr) (oe : Obj) (k : Nat) (dd : Addr) (pn : List (Addr × Obj)), k ∈ cs → L2N.Zn (.ref (c.cm k)) (some dd) oe → (∃ vs, oe.data = .fields vs) → PSSX (X.suite a ((a, oe) :: pn)) ⟨c.cm, some (a, k, dd), noW⟩ q (b0 :: suite) su)
      (r : HdsX X c q more l) : HdsX X c q (.ExceptHandler (some (.Name x np)) (some n) (b0 :: suite) pos' :: more) (⟨cs, ks, some i, su⟩ :: l)
end
end FL
namespace FL
open PySem
open L2 (V Hp HO Cx Inv VK XK TE TT TA TS TI TG PE PT PA PS PSs PI PG Ends WX RelV Vals Rd upd upd_same upd_ne ne_of_none EP TP AP OpR R2 CallR FnOk Room Binds)
section
variable {X : Cx} {c : Cfg}
end
section
variable {X : Cx} {c : Cfg}
end
end FL
namespace FL
open PySem
open L2 (V Hp HO Cx Inv VK XK TE TT TA TS TI TG PE PT PA PS PSs PI PG Ends WX RelV Vals Rd upd upd_same upd_ne ne_of_none EP TP AP OpR R2 CallR FnOk Room Binds)
def lenT (T : PTab) : List D → M D
  | [.ins k ns xs] => (match findP k T with
    | some F => lenL k F [.ins k ns xs]
    | none => M.fail)
  | ds => un1 lenD ds
section
variable {X : Cx} {c : Cfg} {pos : Pos} {e : Expr} {fe : EF}
end
end FL
namespace FL
open PySem
open L2 (V Hp HO Cx Inv VK XK TE TT TA TS TI TG PE PT PA PS PSs PI PG Ends WX RelV Vals Rd upd upd_same upd_ne ne_of_none EP TP AP OpR R2 CallR FnOk Room Binds)
open He (ga ma eqO eqO_ok dflB dflB_ok kwdB kwdB_ok FnW frG frG_in asD ba)
structure DefH where
  ad : PySem.W.Frag → Addr
  name : Str
  qual : Str
  params : Arguments
  body : List Stmt
  scope : Scope
  dfl : List V := []
  clo : List Str := []
def fnH (K : PySem.W.Frag) (a : Addr) : FnW := match K.lookup a with
  | some ⟨_, _, .func fd, _⟩ => some (fd.name, fd.qualname, fd.params, fd.body, fd.scope, fd.globals, fd.closure.map (fun p => (p.1, 0)), fd.builtins)
  | _ => none
def DefH.val (d : DefH) : FnW := some (d.name, d.qual, d.params, .stmts d.body, d.scope, mainGlobals, d.clo.map (fun n => (n, 0)), builtinsNs)
def DefH.ok (K : PySem.W.Frag) (d : DefH) : Bool := PySem.W.keepIn K (.ref (d.ad K)) && (decide (PySem.W.typeIn K (.ref (d.ad K)) = some (.type "function")) && (match K.lookup (d.ad K) with
  | some ⟨_, _, .func fd, _⟩ => PySem.W.codeIn K fd.code d.qual && (dflB K fd.defaults d.dfl && kwdB K fd.kwdefaults [])
  | _ => false))
theorem DefH.funD {K : PySem.W.Frag} {d : DefH} (hclo : d.clo = []) (e : fnH K (d.ad K) = d.val) (c : d.ok K = true) : (∃ fd, L2.FunD K d.name d.qual d.params d.body d.scope d.dfl [] (d.ad K) fd) ∧ PySem.W.isFn K (.ref (d.ad K)) = true ∧ PySem.W.typeIn K (.ref (d.ad K)) = some (.type "function") := by
  obtain ⟨kp, c1⟩ := ba c
  obtain ⟨ty, c2⟩ := ba c1
  have ty := of_decide_eq_true ty
  refine ⟨?_, by unfold PySem.W.isFn; rw [ty]; simp, ty⟩
  unfold fnH at e
  cases q : K.lookup (d.ad K) with
  | none =>
    rw [q] at c2
    cases c2
  | some o =>
    obtain ⟨oc, od, dt, osl⟩ := o
    rw [q] at c2 e
    cases dt with
    | func fd =>
      obtain ⟨m1, m2, m3, m4, m5, m6, m7, m8, m9, m10, m11, m12, m13, m14, m15⟩ := fd
      have e2 : (some (m1, m2, m3, m4, m5, m6, m7.map (fun p => (p.1, 0)), m15) : FnW) = some (d.name, d.qual, d.params, .stmts d.body, d.scope, mainGlobals, d.clo.map (fun n => (n, 0)), builtinsNs) := e
      rw [hclo] at e2
      simp only [Option.some.injEq, Prod.mk.injEq] at e2
      obtain ⟨h1, h2, h3, h4, h5, h6, h7, h8⟩ := e2
      have h7 : m7 = [] := List.map_eq_nil_iff.mp h7
      subst h1 h2 h3 h4 h5 h6 h7 h8
      have c3 : (PySem.W.codeIn K m13 d.qual && (dflB K m8 d.dfl && kwdB K m9 [])) = true := c2
      obtain ⟨k1, k2⟩ := ba c3
      obtain ⟨k3, k4⟩ := ba k2
      exact ⟨_, ⟨oc, od, m8, m9, m10, m11, m12, m13, m14, osl, rfl, q, k1, dflB_ok k3, kwdB_ok k4⟩, kp⟩
    | _ => cases c2
def refsH (o : Obj) : List Addr := match o.data with
  | .dict es _ => es.toList.flatMap fun e => He.refV e.val
  | .func fd => He.refV fd.code ++ (He.refV fd.defaults ++ fd.closure.map (·.2))
  | .cls cd => [cd.ns]
  | .fields vs => vs.toList.flatMap He.refV
  | _ => []
def nextH (g : Addr → Option Obj) (as : List Addr) : List Addr := as.flatMap fun a => match g a with
  | some o => refsH o
  | none => []
def asH (g : Addr → Option Obj) : Nat → List Addr → List Addr
  | 0, as => as
  | n + 1, as => as ++ asH g n (nextH g as)
abbrev AlH : Type := Bool × List FnW × List (Option (Option Value))
def obsH (cks : List (PySem.W.Frag → Bool)) (fns : List DefH) (bls : List (Str × String)) (K : PySem.W.Frag) : AlH := ((cks.all fun f => f K) && fns.all fun d => d.ok K, fns.map fun d => fnH K (d.ad K), bls.map fun p => PySem.W.nsIn K mainGlobals p.1)
def valH (fns : List DefH) (bls : List (Str × String)) : AlH := (true, fns.map DefH.val, bls.map fun p => some (some (.builtin p.2)))
def SaysH (cks : List (PySem.W.Frag → Bool)) (fns : List DefH) (bls : List (Str × String)) (K : PySem.W.Frag) : Prop := obsH cks fns bls K = valH fns bls
def obsHG (n : Nat) (cks : List (PySem.W.Frag → Bool)) (fns : List DefH) (bls : List (Str × String)) (g : Addr → Option Obj) : AlH := obsH cks fns bls (frG g (cStatics :: asH g n [mainGlobals]))
def hookH (n : Nat) (cks : List (PySem.W.Frag → Bool)) (fns : List DefH) (bls : List (Str × String)) : PySem.W.Hook where
  α := AlH
  obs := fun s => obsHG n cks fns bls s.heap.get?
  val := fun _ => valH fns bls
  says := fun _ h => ∃ K : PySem.W.Frag, K.In h ∧ SaysH cks fns bls K
  of := fun _ _ e => ⟨_, frG_in, e⟩
  keeps := fun _ _ _ ⟨K, hK, c⟩ k => ⟨K, PySem.W.Frag.In.keeps hK k, c⟩
theorem obsHG_eq {n : Nat} {cks : List (PySem.W.Frag → Bool)} {fns : List DefH} {bls : List (Str × String)} {g : Addr → Option Obj} {s : Shared} (h : ∀ a, g a = s.heap.get? a) : obsHG n cks fns bls g = (hookH n cks fns bls).obs s := by
  have e : g = s.heap.get? := funext h
  rw [e] <;> rfl
section
variable {cks : List (PySem.W.Frag → Bool)} {fns : List DefH} {bls : List (Str × String)} {K : PySem.W.Frag}
theorem SaysH.fact (c : SaysH cks fns bls K) (i : Nat) {f : PySem.W.Frag → Bool} (h : cks[i]? = some f := by rfl) : f K = true := by
  have c1 := (ba (show ((cks.all fun f => f K) && fns.all fun d => d.ok K) = true from congrArg (fun z : AlH => z.1) c)).1
  exact List.all_eq_true.mp c1 f (List.mem_of_getElem? h)
theorem SaysH.def_ (c : SaysH cks fns bls K) (i : Nat) {d : DefH} (h : fns[i]? = some d := by rfl) (hclo : d.clo = [] := by rfl) : (∃ fd, L2.FunD K d.name d.qual d.params d.body d.scope d.dfl [] (d.ad K) fd) ∧ PySem.W.isFn K (.ref (d.ad K)) = true ∧ PySem.W.typeIn K (.ref (d.ad K)) = some (.type "function") := by
  have c2 := (ba (show ((cks.all fun f => f K) && fns.all fun d => d.ok K) = true from congrArg (fun z : AlH => z.1) c)).2
  have e : fns.map (fun d => fnH K (d.ad K)) = fns.map DefH.val := congrArg (fun z : AlH => z.2.1) c
  have e2 : (fns.map fun d => fnH K (d.ad K))[i]? = (fns.map DefH.val)[i]? := by rw [e]
  rw [List.getElem?_map, List.getElem?_map, h] at e2
  exact DefH.funD hclo (Option.some.inj e2) (List.all_eq_true.mp c2 d (List.mem_of_getElem? h))
end
theorem SaysH.blt {cks : List (PySem.W.Frag → Bool)} {fns : List DefH} {bls : List (Str × String)} {K : PySem.W.Frag} (c : SaysH cks fns bls K) (i : Nat) {p : Str × String} (h : bls[i]? = some p := by rfl) : PySem.W.nsIn K mainGlobals p.1 = some (some (.builtin p.2)) := by
  have e : (bls.map fun p => PySem.W.nsIn K mainGlobals p.1) = (bls.map fun p => some (some (.builtin p.2)) : List (Option (Option Value))) := congrArg (fun z : AlH => z.2.2) c
  have e2 : (bls.map fun p => PySem.W.nsIn K mainGlobals p.1)[i]? = (bls.map fun p => some (some (.builtin p.2)) : List (Option (Option Value)))[i]? := by rw [e]
  rw [List.getElem?_map, List.getElem?_map, h] at e2
  exact Option.some.inj e2
def ckFree (x : Str) (K : PySem.W.Frag) : Bool := eqO (PySem.W.nsIn K mainGlobals x) (some none)
def ckGlo (x : Str) (K : PySem.W.Frag) : Bool := eqO (PySem.W.nsIn K mainGlobals x) (some (some (.ref (ga K x))))
def ckTup (x : Str) (i j : Int) (K : PySem.W.Frag) : Bool := ckGlo x K && (match K.lookup (ga K x) with
  | some ⟨.type c, _, .seq its 0, _⟩ => decide (c = "tuple") && (match its.toList with
    | [.int a _, .int b _] => decide (a = i) && decide (b = j)
    | _ => false)
  | _ => false)
def pa (K : PySem.W.Frag) (C : Addr) (n : Str) : Addr := match PySem.W.recIn K (ma K C n) "property" with
  | some (.ref a :: _) => a
  | _ => 0
def ckMeth (C n : Str) (K : PySem.W.Frag) : Bool := eqO (PySem.W.findIn K (.ref (ga K C)) n) (some (some (.ref (ma K (ga K C) n))))
def ckExc (C : Str) (K : PySem.W.Frag) : Bool := (match K.lookup (ga K C) with
  | some ⟨.type t, _, .cls cd, sl⟩ => decide (t = "type") && (match cd.mro, sl.toList with
    | .ref C' :: bm, [_, _, _, _, some (.builtin n), _] => C' == ga K C && (n == "ValueError.__new__" && (!cd.hasDel && (cd.hasDict && PySem.HandSPX.refsVE bm)))
    | _, _ => false)
  | _ => false) && (eqO (PySem.W.findIn K (.ref (ga K C)) "__setattr__") (some (some (.builtin "object.__setattr__"))) && (decide (PySem.W.subIn K (.ref (ga K C)) (.type "BaseException") = some true) && (decide (PySem.W.typeIn K (.ref (ga K C)) = some (.type "type")) && PySem.W.keepIn K (.ref (ga K C)))))
def ckNoat (C n : Str) (K : PySem.W.Frag) : Bool := eqO (PySem.W.findIn K (.ref (ga K C)) n) (some none)
def ckCls (x : Str) (fs : List Str) (K : PySem.W.Frag) : Bool := clsB K (ga K x) fs
def ckCn (K : PySem.W.Frag) : Bool := eqO (PySem.W.specialIn K (.builtin "object.__class__") "__get__") (some (some (.builtin "getset_descriptor.__get__")))
def ckCt (K : PySem.W.Frag) : Bool := decide (PySem.W.takesIn K (.builtin "object.__class__") = some true)
section
variable {K : PySem.W.Frag} {h : Heap} {mg : Str → Option Value} {x y C n : Str}
theorem ckFree_ok (X : K.In h) (G : h.Ns mainGlobals mg) (c : ckFree x K = true) : mg x = none := PySem.W.mg_none_of X G (eqO_ok c)
theorem ckGlo_ok (X : K.In h) (G : h.Ns mainGlobals mg) (c : ckGlo x K = true) : mg x = some (.ref (ga K x)) := PySem.W.mg_of X G (eqO_ok c)
theorem ckTup_ok {i j : Int} (X : K.In h) (G : h.Ns mainGlobals mg) (c : ckTup x i j K = true) : GTup K mg x i j := by
  obtain ⟨c1, c2⟩ := ba c
  split at c2
  · rename_i t dd its sl e
    obtain ⟨c3, c4⟩ := ba c2
    split at c4
    · rename_i a ta b tb el
      obtain ⟨c5, c6⟩ := ba c4
      have h1 : a = i := of_decide_eq_true c5
      have h2 : b = j := of_decide_eq_true c6
      have h3 : t = "tuple" := of_decide_eq_true c3
      subst h1 h2 h3
      obtain ⟨l⟩ := its
      simp only at el
      subst el
      exact ⟨_, _, _, _, _, ckGlo_ok X G c1, e⟩
    · cases c4
  · cases c2
theorem ckMeth_ok (c : ckMeth C n K = true) : PySem.W.findIn K (.ref (ga K C)) n = some (some (.ref (ma K (ga K C) n))) := eqO_ok c
theorem ckNoat_ok (c : ckNoat C n K = true) : PySem.W.findIn K (.ref (ga K C)) n = some none := eqO_ok c
theorem ckExc_ok (c : ckExc C K = true) : L2.OexC K (ga K C) := by
  obtain ⟨c1, c2⟩ := ba c
  obtain ⟨d1, c3⟩ := ba c2
  obtain ⟨d2, c4⟩ := ba c3
  obtain ⟨d3, d4⟩ := ba c4
  refine ⟨?_, eqO_ok d1, of_decide_eq_true d2, of_decide_eq_true d3, d4⟩
  split at c1
  · rename_i t dd cd sl ho
    obtain ⟨t1, cc⟩ := ba c1
    clear c1
    have t2 : t = "type" := of_decide_eq_true t1
    clear t1
    subst t2
    split at cc
    · rename_i C' bm k0 k1 k2 k3 m k5 hm hs
      obtain ⟨f1, c5⟩ := ba cc
      obtain ⟨f2, c6⟩ := ba c5
      obtain ⟨f3, c7⟩ := ba c6
      obtain ⟨f4, f5⟩ := ba c7
      have g1 := beq_iff_eq.mp f1
      have g2 := beq_iff_eq.mp f2
      subst g1 g2
      obtain ⟨nm, bs, mro, ns, qn, hd, sn, sub, ab, col, del⟩ := cd
      simp only [Bool.not_eq_true'] at hm f3 f4
      subst hm f3 f4
      obtain ⟨l⟩ := sl
      simp only at hs
      subst hs
      exact ⟨_, _, _, _, _, _, _, _, _, _, _, _, _, _, _, ho, f5⟩
    · cases cc
  · cases c1
end
section
variable {K : PySem.W.Frag} {h : Heap} {mg : Str → Option Value} {x : Str} {st : Stmt} {dvs : List V}
theorem defH_at {d : DefH} (hd : d.ad K = ga K x) (e : mg x = some (.ref (ga K x))) (D : (∃ fd, L2.FunD K d.name d.qual d.params d.body d.scope d.dfl [] (d.ad K) fd) ∧ PySem.W.isFn K (.ref (d.ad K)) = true ∧ PySem.W.typeIn K (.ref (d.ad K)) = some (.type "function"))
    (h1 : d.name = x := by rfl) (h2 : d.qual = x := by rfl) (h3 : d.params = L2.defArgs st := by rfl) (h4 : d.body = L2.defBody st := by rfl) (h5 : d.scope = L2.defScope st := by rfl) (h6 : d.dfl = dvs := by rfl) : ∃ f fd, DefAt K mg x st dvs f fd := by
  obtain ⟨⟨fd, F⟩, _⟩ := D
  rw [h1, h2, h3, h4, h5, h6, hd] at F
  exact ⟨_, fd, e, F⟩
theorem methH_at {d : DefH} {C n qual : Str} (hd : d.ad K = ma K (ga K C) n) (e : PySem.W.findIn K (.ref (ga K C)) n = some (some (.ref (ma K (ga K C) n)))) (D : (∃ fd, L2.FunD K d.name d.qual d.params d.body d.scope d.dfl [] (d.ad K) fd) ∧ PySem.W.isFn K (.ref (d.ad K)) = true ∧ PySem.W.typeIn K (.ref (d.ad K)) = some (.type "function"))
    (h1 : d.name = n := by rfl) (h2 : d.qual = qual := by rfl) (h3 : d.params = L2.defArgs st := by rfl) (h4 : d.body = L2.defBody st := by rfl) (h5 : d.scope = L2.defScope st := by rfl) (h6 : d.dfl = dvs := by rfl) : ∃ f fd, MethAt K (ga K C) n qual st dvs f fd := by
  obtain ⟨⟨fd, F⟩, i, _⟩ := D
  rw [h1, h2, h3, h4, h5, h6, hd] at F
  rw [hd] at i
  exact ⟨_, fd, e, i, F⟩
end
section
variable {P : Program} {w : World} {K : PySem.W.Frag} {mg : Str → Option Value} {h : Heap} {base : Heap}
theorem excG1 {x qual : Str} {st : Stmt} {C f : Addr} {n0 n1 f1 : Str} {ps : List Str} {d : DefH} {p1 p2 p3 p4 : Pos} (T : L2.OexC K C) (iC : PySem.W.findIn K (.ref C) "__init__" = some (some (.ref f))) (hf : d.ad K = f) (D : (∃ fd, L2.FunD K d.name d.qual d.params d.body d.scope d.dfl [] (d.ad K) fd) ∧ PySem.W.isFn K (.ref (d.ad K)) = true ∧ PySem.W.typeIn K (.ref (d.ad K)) = some (.type "function")) (e1 : d.name = "__init__") (e2 : d.qual = qual) (e3 : d.params = L2.defArgs st) (e4 : d.body = L2.defBody st) (e5 : d.scope = L2.defScope st) (e6 : d.dfl = []) (S : L2.FnScope [n0, n1] ps (L2.defScope st)) (hps : ps = [n0, n1])
    (hm : mg x = some (.ref C)) (hno : PySem.W.findIn K (.ref C) f1 = some none)
    (eb : L2.defBody st = [.Assign [.Attribute (.Name n0 p1) f1 p2] (.Name n1 p3) p4])
    (hb : ∀ (kV doc pm : Value) (an : Option Addr) (cdv ct : Value) (us : List Value), us.length = ps.length → bindArgs (PySem.W.fnOf "__init__" qual (L2.defArgs st) (L2.defBody st) (L2.defScope st) .none kV doc pm an cdv ct) ⟨us, []⟩ = pure (ps.zip us))
    (v0 : L2.Vis (L2.defScope st) n0 := by exact Or.inl rfl) (v1 : L2.Vis (L2.defScope st) n1 := by exact Or.inl rfl) (d0 : (n0 == ("__debug__" : Str)) = false := by decide) (d1 : (n1 == ("__debug__" : Str)) = false := by decide) (c0 : (n0 == ("__classdict__" : Str)) = false := by decide) (c1 : (n1 == ("__classdict__" : Str)) = false := by decide)
    (hsw : ∀ env : PySem.Env, swapsWith (.Name n1 p3) (some (.Attribute (.Name n0 p1) f1 p2)) p4.line env = pure false := by intro _; rfl) : ExcH P w K mg base x C [f1] := by
  obtain ⟨⟨fd, F⟩, _, tI⟩ := D
  rw [e1, e2, e3, e4, e5, e6, hf] at F
  rw [hf] at tI
  have B := F.bindsN hb
  rw [eb] at F
  exact ⟨f, fd, ps, T, iC, tI, (FnOk.spC (init1_ok F S (by rw [hps]; rfl) v0 v1 d0 d1 c0 c1 hsw) C), B, hm, fun n hn => by rw [List.mem_singleton.mp hn]; exact hno⟩
end
theorem law_endH {l : PySem.W.OpenLaw} {n k N : Nat} {q : PySem.Program} {loose : List Str} {XP : (Str → Option Value) → Heap → Prop} {d : DefRec} {cks : List (PySem.W.Frag → Bool)} {fns : List DefH} {bls : List (Str × String)} {F : List D → M D} (hn : l.most = some n) (hn2 : n ≤ sizeLine) (hdf : d.params.defaults = []) (hr : Room k callerA)
    (plain : ∀ ns : List Int, ns.length ≤ n → ∃ w', F [.frz (ns.map D.int)] none = .ok (.bl true) w')
    (G : ∀ (K : PySem.W.Frag) (w : World) (mg : Str → Option Value) (h : Heap), K.In h → h.Ns mainGlobals mg → SaysH cks fns bls K → ∃ (cm : Nat → Addr) (f : Addr) (fd : FuncData), mg d.name = some (.ref f) ∧ (∀ (s : Shared) (u : Value), BindsTo s fd ⟨[u], []⟩ [("script", u)]) ∧
      ∀ base : Heap, K.In base → base.Ns mainGlobals mg → FnOk l.prog w K mg base (L2N.CX l.prog w) k f fd ["script"] (spX K cm 1 F)) :
    PySem.W.WalkO q loose XP (hookH N cks fns bls).says l.row.toRowW d [] (fun f vs => PySem.call f vs) := by
  refine Att.attach_call hn hdf fun w s0 s1 mg mb fa o pm cd doc a vs ns T Y ho hd hcd hmg hobj hi hl hg => ?_
  obtain ⟨K, KX, c⟩ := Y
  obtain ⟨cm, f, fd, e, hb, hF⟩ := G K w mg _ KX T.T.g c
  rw [hmg] at e
  cases e
  exact L2.law_call KX T.T.g T.T.b T.T.builtins T.T.nolimit hg hobj hi (Nat.le_trans hl hn2) hr hF hb (fun H _ S => sp_end plain H a ns hl S) fun H e s' h => cx_end h
end FL
namespace FL
open PySem
open L2 (It V Hp HO Cx Inv VK XK TE TT TA TS TI TG PE PT PA PS PSs PI PG Ends WX RelV Vals Rd upd upd_same upd_ne ne_of_none EP TP AP OpR R2 CallR FnOk Room Binds)
def Chg (ρ : Env) (σ : St) (H : Hp) (ph : Option Addr) (a : Addr) : Prop :=
  ph = some a ∨ (∃ (i : Nat) (xs : List D), ρ[i]? = some (.own xs) ∧ σ[i]? = some (some (.ref a))) ∨
  ∃ (i : Nat) (ds : List D) (p : Addr) (vs : List V), ρ[i]? = some (.nest ds) ∧ σ[i]? = some (some (.ref p)) ∧ H p = some (.lst vs) ∧ (a = p ∨ ∃ (j : Nat) (xs : List D), ds[j]? = some (.lst xs) ∧ vs[j]? = some (.ref a))
open Classical in
noncomputable def lift (B H : Hp) (S : Addr → Prop) : Hp := fun a => if S a then B a else H a
theorem lift_s {B H : Hp} {S : Addr → Prop} {a : Addr} (h : S a) : lift B H S a = B a := if_pos h
theorem lift_n {B H : Hp} {S : Addr → Prop} {a : Addr} (h : ¬ S a) : lift B H S a = H a := if_neg h
section
variable {K : PySem.W.Frag} {cm : Nat → Addr} {xa : Option (Addr × Nat × Addr)} {q : Sq} {ρ : Env} {σ : St} {H : Hp} {ph : Option Addr} {w : Wd}
theorem chg_ph0 (h : StS K cm xa q ρ ph w σ H) {a : Addr} (e : q.ph0 = some a) : Chg ρ σ H ph a := by
  rcases h.phs with z | ⟨z, _⟩
  · exact .inl (z.trans e)
  · rw [z] at e; cases e
theorem lift_le (h : StS K cm xa q ρ ph w σ H) (a : Addr) (o : HO) (e : q.B a = some o) : lift q.B H (Chg ρ σ H ph) a = some o := by
  by_cases s : Chg ρ σ H ph a
  · rw [lift_s s]; exact e
  · rw [lift_n s]
    exact h.base a o (fun z => s (chg_ph0 h z)) e
theorem StS.up (h : StS K cm xa q ρ ph w σ H) : StS K cm xa { q with B := lift q.B H (Chg ρ σ H ph) } ρ ph w σ H := by
  refine ⟨h.env, h.hand, fun b o n e => ?_, ?_, fun a o => ?_, h.inj, fun i p xs e1 e2 => ?_, fun i ds v e1 e2 => ?_⟩
  · by_cases s : Chg ρ σ H ph b
    · exact h.base b o n ((lift_s s).symm.trans e)
    · exact (lift_n s).symm.trans e
  · rcases h.phs with z | ⟨z, p, z1, z2⟩
    · exact .inl z
    · exact .inr ⟨z, p, z1, (lift_s (.inl z1)).trans z2⟩
  · obtain ⟨y, u, z, k⟩ := h.o0 a o
    exact ⟨y, u, lift_le h a u z, k⟩
  · exact (lift_s (.inr (.inl ⟨i, xs, e1, e2⟩))).trans (h.fresh i p xs e1 e2)
  · obtain ⟨p, vs, rfl, h1, h2, h3⟩ := h.news i ds v e1 e2
    refine ⟨p, vs, rfl, (lift_s (.inr (.inr ⟨i, ds, p, vs, e1, e2, h2, .inl rfl⟩))).trans h1, h2, fun j xs ej => ?_⟩
    obtain ⟨b, b1, b2, b3⟩ := h3 j xs ej
    exact ⟨b, b1, (lift_s (.inr (.inr ⟨i, ds, p, vs, e1, e2, h2, .inr ⟨j, xs, ej, b1⟩⟩))).trans b2, b3⟩
theorem none_le {B B' : Hp} (le : ∀ a o, B a = some o → B' a = some o) {a : Addr} (h : B' a = none) : B a = none := by
  cases e : B a with
  | none => rfl
  | some o => rw [le a o e] at h; cases h
theorem phs_le {B B' : Hp} (le : ∀ a o, B a = some o → B' a = some o) {p0 p1 : Option Addr} (h : PhS B' p0 p1) : PhS B p0 p1 :=
  h.imp id fun ⟨z, p, z1, z2⟩ => ⟨z, p, z1, none_le le z2⟩
theorem StS.down {B' : Hp} (le : ∀ a o, q.B a = some o → B' a = some o) (o0 : OTr q.B q.O0 q.ph0) (h : StS K cm xa { q with B := B' } ρ ph w σ H) : StS K cm xa q ρ ph w σ H :=
  ⟨h.env, h.hand, fun b o n e => h.base b o n (le b o e), phs_le le h.phs, o0, h.inj, fun i p xs e1 e2 => none_le le (h.fresh i p xs e1 e2), fun i ds v e1 e2 => by
    obtain ⟨p, vs, rfl, h1, h2, h3⟩ := h.news i ds v e1 e2
    exact ⟨p, vs, rfl, none_le le h1, h2, fun j xs ej => (h3 j xs ej).imp fun b z => ⟨z.1, none_le le z.2.1, z.2.2⟩⟩⟩
theorem Post3.up {B' : Hp} {Wx : WX} {D : Ends} {r : SR} (le : ∀ a o, q.B a = some o → B' a = some o) (o0 : OTr q.B q.O0 q.ph0) (h : Post3 K cm xa q Wx D r) : Post3 K cm xa { q with B := B' } Wx D r := by
  cases r with
  | nx ρ' w' => exact fun σ' H' ph' s => h σ' H' ph' (s.down le o0)
  | bk ρ' w' => exact fun σ' H' ph' s => h σ' H' ph' (s.down le o0)
  | ct ρ' w' => exact fun σ' H' ph' s => h σ' H' ph' (s.down le o0)
  | rt d w' => exact fun v H' ph' x s hh r => h v H' ph' (fun b o n e => x b o n (le b o e)) (phs_le le s) hh r
  | ex c ns xs ρ' w' => exact fun σ' H' ph' dd vs s hd l r => h σ' H' ph' dd vs (s.down le o0) hd l r
  | bad => exact h
theorem chg_lst (h : StS K cm xa q ρ ph w σ H) {a : Addr} (s : Chg ρ σ H ph a) : ∃ vs, H a = some (.lst vs) := by
  rcases s with s | ⟨i, xs, e1, e2⟩ | ⟨i, ds, p, vs, e1, e2, e3, s⟩
  · subst s
    have hh := h.hand
    cases w with
    | none => exact hh.elim
    | some hs => exact ⟨_, hh.choose_spec.1⟩
  · obtain ⟨p, vs, e3, _, hp, _⟩ := h.env.ownd e1
    rw [e2] at e3; cases e3
    exact ⟨vs, hp⟩
  · rcases s with rfl | ⟨j, xs, ej, ev⟩
    · exact ⟨vs, e3⟩
    · obtain ⟨v, e4, r⟩ := h.env.nestd e1
      rw [e2] at e4; cases e4
      obtain ⟨p', vs', ez, ⟨_, hp⟩, rl⟩ := lst_of r
      cases ez
      rw [e3] at hp; cases hp
      obtain ⟨v', e5, r'⟩ := rl.get ej
      rw [ev] at e5; cases e5
      obtain ⟨b, us, eb, ⟨_, hb⟩, _⟩ := lst_of r'
      cases eb
      exact ⟨us, hb⟩
end
section
variable {K : PySem.W.Frag} {cm : Nat → Addr} {H H' : Hp} {N N' : NS} {ph ph' : Option Addr}
mutual
theorem rep_up (k : ∀ a o, ¬ N a → H a = some o → (∀ us, o ≠ .lst us) → H' a = some o ∧ ¬ N' a) : ∀ (d : D) (v : V), noLst d = true → Rep K cm H N ph d v → Rep K cm H' N' ph' d v
  | .non, _, _, h => by simpa [Rep] using h
  | .bl _, _, _, h => by simpa [Rep] using h
  | .int _, _, _, h => by simpa [Rep] using h
  | .str _, _, _, h => by simpa [Rep] using h
  | .tup ds, v, e, h => by
    simp only [Rep, noLst] at h e ⊢
    obtain ⟨a, vs, e1, t, r⟩ := h
    refine ⟨a, vs, e1, ?_, repl_up k ds vs e r⟩
    rcases t with ⟨n, t | ⟨o, t⟩⟩ | t
    · obtain ⟨z1, z2⟩ := k a _ n t (fun us z => by cases z)
      exact .inl ⟨z2, .inl z1⟩
    · obtain ⟨z1, z2⟩ := k a _ n t (fun us z => by cases z)
      exact .inl ⟨z2, .inr ⟨o, z1⟩⟩
    · exact .inr t
  | .lst _, _, e, _ => by simp [noLst] at e
  | .frz _, _, e, _ => by simp [noLst] at e
  | .ins c ns ds, v, e, h => by
    simp only [Rep, noLst] at h e ⊢
    obtain ⟨a, dx, vs, e1, n, t, l, r⟩ := h
    obtain ⟨z1, z2⟩ := k a _ n t (fun us z => by cases z)
    exact ⟨a, dx, vs, e1, z2, z1, l, repl_up k ds vs e r⟩
  | .hand, _, e, _ => by simp [noLst] at e
theorem repl_up (k : ∀ a o, ¬ N a → H a = some o → (∀ us, o ≠ .lst us) → H' a = some o ∧ ¬ N' a) : ∀ (ds : List D) (vs : List V), noLstL ds = true → RepL K cm H N ph ds vs → RepL K cm H' N' ph' ds vs
  | [], _, _, h => by simpa [RepL] using h
  | d :: ds, vs, e, h => by
    simp only [RepL, noLstL, Bool.and_eq_true] at h e ⊢
    obtain ⟨v, r, e1, h1, h2⟩ := h
    exact ⟨v, r, e1, rep_up k d v e.1 h1, repl_up k ds r e.2 h2⟩
end
end
def unlI (xs : List D) : D → Bool
  | .lst ys => unlL xs ys
  | _ => true
def unlS (xs : List D) : Slot → Bool
  | .nest ds => unlL xs ds && ds.all (unlI xs)
  | _ => true
def sForL (e : EF) (g : GF) (b : SF) : SF := fun ρ w => onE (M.bind (e ρ) seqOf) ρ w fun xs w' => if (noLstL xs && ρ.all (unlS xs)) = true then forL g b xs ρ w' else .bad
def relZ (K : PySem.W.Frag) (cm : Nat → Addr) (O : NS) : Hp → Option Addr → List D → It → Prop := fun H ph xs J => ∃ a vs, RepL K cm H (OO O ph) ph xs vs ∧ ((J = L2.Itl K a ∧ LN K H (OO O ph) a vs) ∨ (J = L2.Itt K a ∧ TN K H (OO O ph) a vs))
section
variable {K : PySem.W.Frag} {cm : Nat → Addr} {xa : Option (Addr × Nat × Addr)} {q : Sq} {ρ : Env} {σ : St} {H : Hp} {ph : Option Addr} {w : Wd}
theorem up_kept (h : StS K cm xa q ρ ph w σ H) {a : Addr} {o : HO} (n : ¬ NN q ρ σ ph a) (s : ¬ Chg ρ σ H ph a) (e : H a = some o) {ρ2 : Env} {ph2 : Option Addr} {w2 : Wd} {σ2 : St} {H2 : Hp} (h2 : StS K cm xa { q with B := lift q.B H (Chg ρ σ H ph) } ρ2 ph2 w2 σ2 H2) : H2 a = some o ∧ ¬ NN { q with B := lift q.B H (Chg ρ σ H ph) } ρ2 σ2 ph2 a := by
  have eB : lift q.B H (Chg ρ σ H ph) a = some o := (lift_n s).trans e
  have n0 : q.ph0 ≠ some a := fun z => s (chg_ph0 h z)
  refine ⟨h2.base a o n0 eB, fun z => ?_⟩
  rcases z with (z | ⟨i, xs, z1, z2⟩) | z
  · exact n (.inl (.inl z))
  · have := h2.fresh i a xs z1 z2
    exact absurd (this.symm.trans eB) (by intro y; cases y)
  · rcases h2.phs with y | ⟨_, p, y1, y2⟩
    · exact n0 (y.symm.trans z)
    · rw [z] at y1; cases y1
      exact absurd (y2.symm.trans eB) (by intro y; cases y)
theorem not_chg (dis : Dis K H) (h : StS K cm xa q ρ ph w σ H) {a : Addr} {xs : List D} {vs : List V} (n : ¬ NN q ρ σ ph a) (e : H a = some (.lst vs)) (r : RepL K cm H (NN q ρ σ ph) ph xs vs) (u : ρ.all (unlS xs) = true) : ¬ Chg ρ σ H ph a := by
  rw [List.all_eq_true] at u
  rintro (s | ⟨i, ys, e1, e2⟩ | ⟨i, ds, p, us, e1, e2, e3, s⟩)
  · exact n (.inr s)
  · exact n (.inl (.inr ⟨i, ys, e1, e2⟩))
  · have c : (unlL xs ds && ds.all (unlI xs)) = true := u _ (List.mem_of_getElem? e1)
    rw [Bool.and_eq_true, List.all_eq_true] at c
    obtain ⟨v, e4, r2⟩ := h.env.nestd e1
    rw [e2] at e4; cases e4
    obtain ⟨p', vs', ez, ⟨_, hp⟩, rl⟩ := lst_of r2
    cases ez
    rw [e3] at hp; cases hp
    rcases s with rfl | ⟨j, ys, ej, ev⟩
    · rw [e] at e3; cases e3
      have := unlL_rep dis _ _ _ r rl
      rw [this] at c
      exact Bool.false_ne_true c.1
    · obtain ⟨v', e5, r'⟩ := rl.get ej
      rw [ev] at e5; cases e5
      obtain ⟨b, us2, eb, ⟨_, hb⟩, rb⟩ := lst_of r'
      cases eb
      rw [e] at hb; cases hb
      have := unlL_rep dis _ _ _ r rb
      have c2 : unlL xs ys = true := c.2 _ (List.mem_of_getElem? ej)
      rw [this] at c2
      exact Bool.false_ne_true c2
end
theorem pe_dis {X : Cx} {e : Expr} {tl : TE} (h : PE X e tl) : PE X e (fun σ H Q => tl σ H fun x H1 => Dis X.K H1 → Q x H1) :=
  ⟨fun pins s σ H Q I hw => L2.thn (h.run pins s σ H _ I hw) fun u s2 ⟨x, H2, I2, rx, hq⟩ => ⟨x, H2, I2, rx, hq fun a o e => k_free I2 e⟩⟩
section
variable {X : Cx} {c : Cfg} {q : Sq} {pos : Pos}
theorem forL_core {g : GF} {gt : TG} {is : List Nat} {b : SF} {J : It} {xs : List D} {C : Hp → NS → Option Addr → Prop} {ρ : Env} {σ : St} {H1 : Hp} {ph1 : Option Addr} {w1 : Wd} {D : Ends} {B' : Hp} (F : Feeds X.K c.cm J xs C) (hG : TGX X.K c.cm g gt is)
    (hC : ∀ ρ2 ph2 w2 σ2 H2, StS X.K c.cm c.xa { q with B := B' } ρ2 ph2 w2 σ2 H2 → C H2 (NN { q with B := B' } ρ2 σ2 ph2) ph2)
    (h1 : StS X.K c.cm c.xa { q with B := B' } ρ ph1 w1 σ H1) (hp1 : Post3 X.K c.cm c.xa { q with B := B' } c.Wx D (forL g b xs ρ w1)) :
    ∃ W : Nat → Nat → St → Hp → Prop, (∃ m, W 0 m σ H1) ∧ ∀ i m σ H, W i m σ H →
      (J.stop i H ∧ D.nx σ H) ∨ (J.go i H ∧ ∃ N : St → Hp → Prop, (∀ σ' H', N σ' H' → ∃ m', m' < m ∧ W (i + 1) m' σ' H') ∧ ∀ x H', J.yld i H x H' → gt x σ H' fun σ2 H2 => ∃ B', tY X.K c.cm c.xa { q with B := B' } c.Wx b { D with nx := N, ct := N, bk := D.nx } σ2 H2) := by
  obtain ⟨G, Y, hw, hCG, hY⟩ := F.walk
  refine L2.for_it (tb := fun D σ H => ∃ B', tY X.K c.cm c.xa { q with B := B' } c.Wx b D σ H) hw (fun i σ' H' => ∃ ρ' ph' w', StS X.K c.cm c.xa { q with B := B' } ρ' ph' w' σ' H' ∧ Post3 X.K c.cm c.xa { q with B := B' } c.Wx D (forL g b (xs.drop i) ρ' w')) ⟨ρ, ph1, w1, h1, hp1⟩ (fun i σ' H' _ ⟨ρ', ph', w', h', _⟩ => hCG _ _ _ (hC ρ' ph' w' σ' H' h')) ?_ ?_
  · rintro i x σ2 H2 H3 hi ⟨ρ2, ph2, w2, h2, hp2⟩ y
    have ex : xs[i]? = some xs[i] := List.getElem?_eq_getElem hi
    obtain ⟨kx, rx⟩ := hY i xs[i] H2 (NN { q with B := B' } ρ2 σ2 ph2) ph2 x H3 (hC _ _ _ _ _ h2) (fun p hpn => fresh_oo h2.env.tr h2.hand hpn) ex y
    have xt : Ext ph2 H2 H3 := fun b o _ e => kx b o e
    have hh3 : HandOk X.K c.cm H3 (OwnS q.O0 ρ2 σ2) ph2 w2 := h2.hand.keep (Ext.keep xt .refl) fun p _ o e => kx p o e
    have h3 := StS.ext (q := { q with B := B' }) xt .refl hh3 h2
    have ed : xs.drop i = xs[i] :: xs.drop (i + 1) := List.drop_eq_getElem_cons hi
    rw [ed] at hp2
    cases eg : g xs[i] ρ2 with
    | none => rw [forL_none eg] at hp2; exact (show False from hp2).elim
    | some ρ3 =>
      rw [forL_cons eg] at hp2
      obtain ⟨ts, rfl, ht, hq⟩ := hG rx eg
      obtain ⟨h4, k4⟩ := StS.puts ts (fun t m => (ht t m).2) h3
      refine hq σ2 _ ⟨B', _, ph2, w2, h4, ?_⟩
      revert hp2
      cases eb : b (putE ts ρ2) w2 with
      | nx ρ5 w5 => exact fun hp4 σ5 H5 ph5 h5 => ⟨ρ5, ph5, w5, h5, hp4⟩
      | ct ρ5 w5 => exact fun hp4 σ5 H5 ph5 h5 => ⟨ρ5, ph5, w5, h5, hp4⟩
      | bk ρ5 w5 => exact fun hp4 => hp4
      | rt d w5 => exact fun hp4 => hp4
      | ex c ns xs ρ5 w5 => exact fun hp4 => hp4
      | bad => exact fun hp4 => hp4
  · rintro σ2 H2 ⟨ρ2, ph2, w2, h2, hp2⟩
    rw [List.drop_length] at hp2
    exact hp2 σ2 H2 ph2 h2
theorem psy_forL {tg e : Expr} {fe : EF} {body : List Stmt} {g : GF} {gt : TG} {is : List Nat} {b : SF} (hp : PassesOwn (model X.prog X.w) X.A X.env X.xe) (hc : X.calm = true) (he : PX X c e fe) (hg : PG X tg gt) (hG : TGX X.K c.cm g gt is) (hb : ∀ q, PSSY X c q body b)
    (hs : ∀ x, foldedSetIterable e X.env x = pure x := by intro _; rfl) : PSY X c q (.For tg e body [] pos) (sForL fe g b) :=
  PS.to (L2.ps_for hp hc (pi_any (pe_dis he)) hg (tb := fun D σ H => ∃ B', tY X.K c.cm c.xa { q with B := B' } c.Wx b D σ H) ⟨fun pins s σ H D I ⟨B', h⟩ => (hb _).run pins s σ H D I h⟩ hs) fun D σ H ⟨ρ, ph, w, h, hpo⟩ => by
    have r0 := onE_run3 (rel := relZ X.K c.cm (OwnS q.O0 ρ σ)) h hpo
    refine ⟨_, ρ, ph, w, (Run.bind (rel := relV X.K c.cm (OwnS q.O0 ρ σ)) r0).imp fun v H1 ⟨d, ph1, w1, e1, s1, r1, h1⟩ dis => ?_⟩
    have fin : ∀ {J : It}, (∃ xs ph1 w1, relZ X.K c.cm (OwnS q.O0 ρ σ) H1 ph1 xs J ∧ StS X.K c.cm c.xa q ρ ph1 w1 σ H1 ∧ Post3 X.K c.cm c.xa q c.Wx D (if (noLstL xs && ρ.all (unlS xs)) = true then forL g b xs ρ w1 else .bad)) →
        ∃ W : Nat → Nat → St → Hp → Prop, (∃ m, W 0 m σ H1) ∧ ∀ i m σ H, W i m σ H →
          (J.stop i H ∧ D.nx σ H) ∨ (J.go i H ∧ ∃ N : St → Hp → Prop, (∀ σ' H', N σ' H' → ∃ m', m' < m ∧ W (i + 1) m' σ' H') ∧ ∀ x H', J.yld i H x H' → gt x σ H' fun σ2 H2 => ∃ B', tY X.K c.cm c.xa { q with B := B' } c.Wx b { D with nx := N, ct := N, bk := D.nx } σ2 H2) := by
      rintro J ⟨xs, ph2, w2, ⟨a, vs, rl, hJ⟩, hS, hP⟩
      by_cases cc : (noLstL xs && ρ.all (unlS xs)) = true
      · rw [if_pos cc] at hP
        rw [Bool.and_eq_true] at cc
        have le := lift_le hS
        have kk : ∀ ρ3 ph3 w3 σ3 H3, StS X.K c.cm c.xa { q with B := lift q.B H1 (Chg ρ σ H1 ph2) } ρ3 ph3 w3 σ3 H3 → RepL X.K c.cm H3 (NN { q with B := lift q.B H1 (Chg ρ σ H1 ph2) } ρ3 σ3 ph3) ph3 xs vs := fun ρ3 ph3 w3 σ3 H3 h3 =>
          repl_up (fun a o n e nl => up_kept hS n (fun s => by
            obtain ⟨us, z⟩ := chg_lst hS s
            rw [e] at z
            exact nl us (Option.some.inj z)) e h3) xs vs cc.1 rl
        rcases hJ with ⟨rfl, t⟩ | ⟨rfl, t⟩
        · exact forL_core (B' := lift q.B H1 (Chg ρ σ H1 ph2)) (feeds_list (a := a) (ds := xs) (vs := vs)) hG (fun ρ3 ph3 w3 σ3 H3 h3 => by
            refine ⟨?_, kk _ _ _ _ _ h3⟩
            rcases t with ⟨n, t | ⟨o, t⟩⟩ | t
            · obtain ⟨z1, z2⟩ := up_kept hS n (not_chg dis hS n t rl cc.2) t h3
              exact .inl ⟨z2, .inl z1⟩
            · obtain ⟨z1, z2⟩ := up_kept hS n (fun s => by
                obtain ⟨us, z⟩ := chg_lst hS s
                rw [t] at z; cases z) t h3
              exact .inl ⟨z2, .inr ⟨o, z1⟩⟩
            · exact .inr t) hS.up (hP.up le hS.o0)
        · exact forL_core (B' := lift q.B H1 (Chg ρ σ H1 ph2)) (feeds_tup (a := a) (ds := xs) (vs := vs)) hG (fun ρ3 ph3 w3 σ3 H3 h3 => by
            refine ⟨?_, kk _ _ _ _ _ h3⟩
            rcases t with ⟨n, t | ⟨o, t⟩⟩ | t
            · obtain ⟨z1, z2⟩ := up_kept hS n (fun s => by
                obtain ⟨us, z⟩ := chg_lst hS s
                rw [t] at z; cases z) t h3
              exact .inl ⟨z2, .inl z1⟩
            · obtain ⟨z1, z2⟩ := up_kept hS n (fun s => by
                obtain ⟨us, z⟩ := chg_lst hS s
                rw [t] at z; cases z) t h3
              exact .inl ⟨z2, .inr ⟨o, z1⟩⟩
            · exact .inr t) hS.up (hP.up le hS.o0)
      · rw [if_neg cc] at hP
        exact (show False from hP).elim
    cases d with
    | lst ds =>
      obtain ⟨a, vs, rfl, ⟨n, t⟩, rl⟩ := lst_of r1
      exact ⟨a, rfl, .inl ⟨vs, .inl (.inl t), fin (h1.ret (b := L2.Itl X.K a) ⟨a, vs, rl, .inl ⟨rfl, .inl ⟨n, .inl t⟩⟩⟩)⟩⟩
    | tup ds =>
      obtain ⟨a, vs, rfl, t, rl⟩ := tup_of r1
      exact ⟨a, rfl, .inr ⟨vs, t.seq, fin (h1.ret (b := L2.Itt X.K a) ⟨a, vs, rl, .inr ⟨rfl, t⟩⟩)⟩⟩
    | frz ds =>
      obtain ⟨a, vs, rfl, t, rl⟩ := frz_of r1
      exact ⟨a, rfl, .inl ⟨vs, t.seq, fin (h1.ret (b := L2.Itl X.K a) ⟨a, vs, rl, .inl ⟨rfl, t⟩⟩)⟩⟩
    | _ => exact h1.no
end
end FL
namespace FL
open PySem
open L2 (It V Hp HO Cx Inv VK XK TE TT TA TS TI TG PE PT PA PS PSs PI PG Ends WX RelV Vals Rd upd upd_same upd_ne ne_of_none EP TP AP OpR R2 CallR FnOk Room Binds)
section
variable {X : Cx} {K : PySem.W.Frag} {cm : Nat → Addr}
end
end FL
namespace FL
open PySem
abbrev obP (n : Nat) (cks : List (PySem.W.Frag → Bool)) (fns : List DefH) (bls : List (Str × String)) (s : PySem.W.SharedT) : AlH := obsHG n cks fns bls (HandSHeadRun.getT s)
theorem obsHG_app {n : Nat} {c1 c2 : List (PySem.W.Frag → Bool)} {f1 f2 : List DefH} {b1 b2 : List (Str × String)} {g : Addr → Option Obj} (h1 : obsHG n c1 f1 b1 g = valH f1 b1) (h2 : obsHG n c2 f2 b2 g = valH f2 b2) : obsHG n (c1 ++ c2) (f1 ++ f2) (b1 ++ b2) g = valH (f1 ++ f2) (b1 ++ b2) := by
  unfold obsHG obsH valH at h1 h2 ⊢
  simp only [Prod.mk.injEq, Bool.and_eq_true] at h1 h2
  obtain ⟨⟨p1, q1⟩, m1, l1⟩ := h1
  obtain ⟨⟨p2, q2⟩, m2, l2⟩ := h2
  simp only [List.all_append, List.map_append, p1, p2, q1, q2, m1, m2, l1, l2, Bool.and_self]
theorem part_app {σ : Type} {X : Option σ} {π : σ → PySem.W.SharedT} {n : Nat} {c1 c2 : List (PySem.W.Frag → Bool)} {f1 f2 : List DefH} {b1 b2 : List (Str × String)} (h1 : X.map (fun s => obP n c1 f1 b1 (π s)) = some (valH f1 b1)) (h2 : X.map (fun s => obP n c2 f2 b2 (π s)) = some (valH f2 b2)) : X.map (fun s => obP n (c1 ++ c2) (f1 ++ f2) (b1 ++ b2) (π s)) = some (valH (f1 ++ f2) (b1 ++ b2)) := by
  cases X with
  | none => cases h1
  | some s => exact congrArg some (obsHG_app (Option.some.inj h1) (Option.some.inj h2))
theorem part_3 {σ α β γ : Type} {X : Option σ} {A : σ → α} {B : σ → β} {O : σ → γ} {a : α} {b : β} {v : γ} (h1 : X.map A = some a) (h2 : X.map B = some b) (h : X.map O = some v) : X.map (fun s => (A s, B s, O s)) = some (a, b, v) := by
  cases X with
  | none => cases h
  | some s =>
    have ea : A s = a := Option.some.inj h1
    have eb : B s = b := Option.some.inj h2
    have e1 : O s = v := Option.some.inj h
    show some (A s, B s, O s) = _
    rw [ea, eb, e1]
theorem part_two {τ : Type} {X : Option (τ × PySem.W.SharedT)} {n : Nat} {c1 c2 : List (PySem.W.Frag → Bool)} {f1 f2 : List DefH} {b1 b2 : List (Str × String)} (h1 : X.map (fun s => obP n c1 f1 b1 s.2) = some (valH f1 b1)) (h2 : X.map (fun s => obP n c2 f2 b2 s.2) = some (valH f2 b2)) : X.map (fun s => obP n (c1 ++ c2) (f1 ++ f2) (b1 ++ b2) s.2) = some (valH (f1 ++ f2) (b1 ++ b2)) := part_app (σ := τ × PySem.W.SharedT) (π := fun s => s.2) h1 h2
end FL
namespace FL
open PySem L2 HotX PyProof.Rows PySem.Spec
section
variable {prog : Program} {w : World} {A : Around} {s : Shared} {E : Value → Shared → Prop}
end
section
variable {P : Program} {w : World} {K : PySem.W.Frag} {tg : Expr}
end
section
variable {X : Cx} {tg : Expr}
end
end FL
namespace FL
open PySem
open L2 (V Hp HO Cx Inv VK XK TE TT TA TS TI TG PE PT PA PS PSs PI PG Ends WX RelV Vals Rd upd upd_same upd_ne ne_of_none EP TP AP OpR R2 CallR FnOk Room Binds)
section
variable {X : Cx}
theorem takes0N : L2N.Takes X (fun _ _ _ _ => False) := fun u s' x => by
  obtain ⟨_, _, _, _, _, _, _, _, _, _, _, _, _, _, _, _, no⟩ := x
  exact no.elim
end
section
variable {P : Program} {w : World} {K : PySem.W.Frag} {mg : Str → Option Value} {base : Heap} {cm : Nat → Addr}
structure HasH (P : Program) (w : World) (K : PySem.W.Frag) (mg : Str → Option Value) (base : Heap) (cm : Nat → Addr) (x : Str) (lvl : Nat) (ps : List Str) (n : Nat) (F : List D → M D) : Prop where
  ex : ∃ f fd, mg x = some (.ref f) ∧ PySem.W.keepIn K (.ref f) = true ∧ L2H.FnH P w K mg base (L2N.CX P w) lvl f fd ps (spX K cm n F) ∧ Binds K fd ps []
end
section
variable {X : Cx} {c : Cfg} {pos : Pos} {e : Expr} {es : List Expr} {fs : List EF}
end
end FL
namespace FL
open PySem
open L2 (It V Hp HO Cx Inv VK XK TE TT TA TS TI TG PE PT PA PS PSs PI PG Ends WX RelV Vals Rd upd upd_same upd_ne ne_of_none EP TP AP OpR R2 CallR FnOk Room Binds)
section
variable {K : PySem.W.Frag} {cm : Nat → Addr}
end
end FL
namespace FL
open PySem PyProof.Rows PySem.Spec
open L2 (V Hp HO St Cx Inv VK XK TE TT TA TS TI TG PE PT PA PS PSs PI PG Ends WX RelV Vals Rd upd upd_same upd_ne ne_of_none EP TP AP OpR R2 CallR FnOk Room Binds CXT OexC exo exd exo_at exo_ok HOk Un Env0 CE thn)
section
open PySem.W PySem.Calls
variable {prog : Program} {w : World} {A : Around} {E : Value → Shared → Prop} {h : Heap} {g : Array GenState} {d : Drawn} {t : Nat} {os : OsState}
theorem sup_call {nm q : Str} {C N : Addr} {bs bm : List Value} {hdct : Bool} {sn : List Str} {sub : List Value} {ab : Bool} {col : Option Bool} {dd : Option Addr} {k0 k1 k2 k3 k5 : Option Value} {mw e t0 : Addr} {rest : List Value} {Q : Value → Shared → Prop}
    (hC : h.get? C = some (excClassObj nm q C N bs bm hdct sn sub ab col dd k0 k1 k2 k3 k5 "ValueError.__new__")) (he : h.get? e = some (HandSPX.excO C t0)) (hu : h.get? mw = some (kxs_mw "ValueError.__init__" e)) (hrest : rest.length ≤ sizeLine)
    (hq : ∀ h' t1, (∀ b o, b ≠ e → h.get? b = some o → h'.get? b = some o) → h'.get? e = some (HandSPX.excO C t1) → Q .none ⟨h', g, d, t, os⟩) :
    wpAny (model prog w) A (call (.ref mw) rest) Q E ⟨h, g, d, t, os⟩ := by
  refine wpAny_call (codeAny_of_tree ?_)
  show wpAny _ A.in1 (callAny (.ref mw) ⟨rest, []⟩) _ _ _
  simp only [callAny]
  refine wpAny_bind (wpAny_load hu ?_)
  simp only [kxs_mw, show (Value.type "method-wrapper" == Value.type "method" || Value.type "method-wrapper" == Value.type "builtin_function_or_method" || Value.type "method-wrapper" == Value.type "method-wrapper") = true by decide, if_true]
  refine W.KFB.if_so (by decide) ?_
  refine wpAny_bind (ESX.check_bound F.excBase_ValueError hC he rfl ?_)
  refine wpAny_bind (wpAny_pure (wpAny_pure ?_))
  refine ⟨Code.quiet_builtin _ (by decide +kernel), codeAny_builtin F.excBase_ValueError.initEntry ?_⟩
  rw [Around.under_plainId F.excBase_ValueError.init.plain _]
  wp_walk
  refine hq _ h.objs.size (fun b o hb ho => ?_) ?_
  · rw [Heap.get?_update_other _ _ (Ne.symm hb)]
    exact Heap.get?_push_of_some _ ho
  · rw [Heap.get?_update_self _ (Heap.get?_push_of_some _ he) rfl]
    rfl
end
inductive SupArgs (N : List Str) (sc : Scope) : List Expr → Prop
  | nil : SupArgs N sc []
  | str {x : Str} {j : Nat} {p : Pos} {es : List Expr} : SupArgs N sc es → SupArgs N sc (.Constant (.str x) j p :: es)
  | var {x : Str} {p : Pos} {es : List Expr} (i : Nat) : N[i]? = some x → L2.Vis sc x → (x == ("__debug__" : Str)) = false → (x == ("__classdict__" : Str)) = false → SupArgs N sc es → SupArgs N sc (.Name x p :: es)
theorem SupArgs.reads {N : List Str} {sc : Scope} {X : Cx} {es : List Expr} (S : SupArgs N sc es) (hN : X.N = N) (hs : X.env.scope = sc) :
    ∃ ta : TA, PA X es ta ∧ ∀ (σ : St) (H : Hp) (Q : List V → Hp → Prop), (∀ (i : Nat) (x : Str), N[i]? = some x → ∃ v : V, σ[i]? = some (some v)) → (∀ vs : List V, vs.length = es.length → Q vs H) → ta σ H Q := by
  induction S with
  | nil => exact ⟨_, L2.pa_nil, fun σ H Q _ h => h [] rfl⟩
  | @str x j p es _ ih =>
    obtain ⟨ta, ha, hq⟩ := ih
    exact ⟨_, L2.pa_cons L2.pe_str ha, fun σ H Q hv h => hq σ H _ hv fun vs hl => h (.str x :: vs) (by simp [hl])⟩
  | @var x p es i e1 e2 e3 e4 _ ih =>
    obtain ⟨ta, ha, hq⟩ := ih
    refine ⟨_, L2.pa_cons (L2.pe_var (i := i) (by rw [hN]; exact e1) (by rw [hs]; exact e2) e3 e4) ha, fun σ H Q hv h => ?_⟩
    obtain ⟨v, ev⟩ := hv i x e1
    exact ⟨v, ev, hq σ H _ hv fun vs hl => h (v :: vs) (by simp [hl])⟩
structure SupD (P : Program) (K : PySem.W.Frag) (qual : Str) (params : Arguments) (body : List Stmt) (scope : Scope) (C f : Addr) (fd : FuncData) : Prop where
  ex : ∃ (oc : Value) (od : Option Addr) (kV doc pm : Value) (an : Option Addr) (cda : Addr) (ct : Value) (osl : Array (Option Value)) (cc : Addr) (c1 : Value) (c2 : Option Addr) (fs : Array Value) (c3 : Array (Option Value)) (file : Str) (tf : Tok) (e1 : Value) (e2 : Option Addr) (e3 : Array (Option Value)),
    fd = PySem.W.ksFn "__init__" qual params body scope .none kV doc pm an (.ref cda) ct cc ∧ K.lookup f = some ⟨oc, od, .func fd, osl⟩ ∧ PySem.W.codeIn K (.ref cda) qual = true ∧
    K.lookup cda = some ⟨c1, c2, .fields fs, c3⟩ ∧ fs[2]? = some (.str file tf) ∧ ((P.main.file : Str) == file) = true ∧ K.lookup cc = some ⟨e1, e2, .cell (some (.ref C)), e3⟩
  sup : PySem.W.ks_superIn K C C "__init__" = some (some (.builtin "ValueError.__init__"))
  free : PySem.W.nsIn K mainGlobals "super" = some none
  stat : PySem.W.nsIn K cStatics "thirdparty.any" = some none
  top : (P.main.scope.names.lookup ("super" : Str)).isSome = false
structure SupScope (N ps : List Str) (sc : Scope) (n0 : Str) : Prop where
  kind : sc.kind = .function
  co : sc.isCoroutine = false
  gen : sc.isGenerator = false
  nd : N.Nodup
  pre : ps = N
  par : ∀ x ∈ N, sc.names.lookup x = some .local
  nocell : ∀ y ∈ sc.names, y.2 ≠ .cell
  free : ∀ y ∈ sc.names, y.2 = .free → y.1 = "__class__"
  sup : sc.names.lookup ("super" : Str) = some .globalImplicit
  cls : sc.names.lookup ("__class__" : Str) = some .free
  head : N[0]? = some n0
theorem look_in : ∀ {l : List (Str × Value)} {k : Str} {v : Value}, (l.map (·.1)).Nodup → (k, v) ∈ l → l.lookup k = some v
  | [], _, _, _, h => by cases h
  | (a, b) :: r, k, v, nd, h => by
    rw [List.map_cons, List.nodup_cons] at nd
    rw [List.lookup_cons]
    rcases List.mem_cons.mp h with e | e
    · cases e; simp
    · have ne : k ≠ a := fun z => nd.1 (by rw [← z]; exact List.mem_map_of_mem (f := (·.1)) e)
      have ne' : (k == a) = false := by simpa using ne
      rw [ne']
      exact look_in nd.2 e
theorem look_zip {N : List Str} {us : List Value} {i : Nat} {x : Str} {u : Value} (nd : N.Nodup) (hl : us.length = N.length) (h1 : N[i]? = some x) (h2 : us[i]? = some u) : (N.zip us).reverse.lookup x = some u := by
  refine look_in ?_ ?_
  · rw [List.map_reverse, show (fun a : Str × Value => a.1) = Prod.fst from rfl, List.map_fst_zip (by omega)]
    exact List.pairwise_reverse.mpr (nd.imp fun h => Ne.symm h)
  · rw [List.mem_reverse]
    have : (N.zip us)[i]? = some (x, u) := by rw [List.getElem?_zip_eq_some]; exact ⟨h1, h2⟩
    exact List.mem_of_getElem? this
section
variable {P : Program} {w : World} {K : PySem.W.Frag} {mg : Str → Option Value} {base : Heap}
def supX (P : Program) (w : World) (K : PySem.W.Frag) (mg : Str → Option Value) (base : Heap) (N : List Str) (qual : Str) (scope : Scope) (f : Addr) (cd : Value) (cc : Addr) (A : Around) (outer : List PySem.Env) (s : Shared) (H : Hp) (xe : Value → Shared → Prop) : Cx where
  prog := P
  w := w
  K := K
  mg := mg
  base := base
  A := A.deeper (PySem.W.ksEnv qual scope s.heap.objs.size f cd cc)
  N := N
  s_0 := s
  H_0 := H
  env := PySem.W.ksEnv qual scope s.heap.objs.size f cd cc
  outer := outer
  stack := PySem.W.ksEnv qual scope s.heap.objs.size f cd cc :: outer
  ex := []
  calm := true
  fn := fun _ => false
  pn := []
  xe := xe
theorem sup_inv {N : List Str} {qual n0 : Str} {scope : Scope} {f : Addr} {cd : Value} {cc : Addr} {A : Around} {outer : List PySem.Env} {s : Shared} {H : Hp} {xe : Value → Shared → Prop} {us : List Value} {vs : List V} {h1 : Heap} {tk : Nat} {v : Option Value} {oc : Obj}
    (S : SupScope N N scope n0) (hd : A.handled = none) (e0 : Env0 P w K mg base A outer s H) (hl : vs.length = N.length) (r : Vals vs us) (hns : h1.Ns s.heap.objs.size (fun x => (N.zip us).reverse.lookup x)) (hk : ∀ b o, s.heap.get? b = some o → h1.get? b = some o)
    (hc : base.get? cc = some oc) (hcd : oc.data = .cell v) : Inv (supX P w K mg base N qual scope f cd cc A outer s H xe) [] (L2.start N vs) H { s with heap := h1, toks := tk } := by
  have noA : ∀ b : Addr, b ∉ (supX P w K mg base N qual scope f cd cc A outer s H xe).ex := fun b z => absurd (show b ∈ ([] : List Addr) from z) (by simp)
  have one : ∀ {x : Str} {c : Addr}, List.lookup x [(("__class__" : Str), cc)] = some c → x = "__class__" ∧ c = cc := fun {x c} h => by
    rw [List.lookup_cons] at h
    split at h
    · rename_i e
      exact ⟨by simpa using e, (Option.some.inj h).symm⟩
    · cases h
  have hul : us.length = N.length := by rw [← hl]; exact (r.length).symm
  refine ⟨⟨e0.mod, S.kind, rfl, rfl, Nat.le_refl _, fun x y c e1 e2 => ?_, fun x hx => ?_, fun x c z _ => (by cases z), fun _ => hd, Around.frames_deeper e0.frames, .inr ⟨rfl, rfl⟩, fun b z => absurd z (noA b), e0.bs, e0.bsz, fun b _ _ => noA b, fun b z => absurd z (noA b), e0.funs, e0.frf⟩,
    rfl, e0.bare, Un.kept hk, ⟨_, hns, fun i x v e1 e2 hv => ?_⟩, fun x c e => ?_, e0.hok.fresh (Nat.le_refl _), fun x c e => ?_, fun p hp => absurd (show p ∈ ([] : List (Addr × Obj)) from hp) (by simp), e0.hok.kept hk, ?_⟩
  · rw [(one e1).1, (one e2).1]
  · have hx : scope.names.lookup x = some .cell ∨ scope.names.lookup x = some .free := hx
    rcases hx with hx | hx
    · exact absurd rfl (S.nocell _ (PySem.mem_of_lookup hx))
    · obtain rfl : x = "__class__" := S.free _ (PySem.mem_of_lookup hx) rfl
      exact ⟨cc, rfl⟩
  · have hi : i < N.length := (List.getElem?_eq_some_iff.mp e1).1
    have ha : vs[i]? = some v := by
      unfold L2.start at e2
      rw [List.getElem?_append_left (by simp; omega), List.getElem?_map] at e2
      cases q : vs[i]? with
      | none => rw [q] at e2; cases e2
      | some a => rw [q] at e2; cases e2; rfl
    obtain ⟨u, hu, rv⟩ := r.get ha
    exact ⟨u, rv, .inl ⟨S.par x (List.mem_of_getElem? e1), look_zip S.nd hul e1 hu⟩⟩
  · obtain ⟨_, rfl⟩ := one e
    exact ⟨v, oc, hk _ _ (e0.bs _ _ hc).1, hcd⟩
  · obtain ⟨_, rfl⟩ := one e
    exact (e0.bs _ _ hc).2
  · unfold L2.start
    show _ = N.length
    rw [List.length_append, List.length_map, List.length_replicate]
    omega
end
section
open PySem.W
variable {P : Program} {w : World} {K : PySem.W.Frag} {mg : Str → Option Value} {base : Heap}
theorem sup_mro {C : Addr} {cd : ClassData} (hcd : PySem.W.clsIn K C = some cd) {b : Value} (hb : cd.mro.contains b = true) (ne : cd.mro.isEmpty = false) : PySem.W.mroIn K C b = some true := by
  unfold PySem.W.mroIn
  rw [hcd, Option.bind_some, if_neg (by rw [ne]; decide), hb]
theorem sup_ok {N : List Str} {qual n0 : Str} {params : Arguments} {scope : Scope} {C f : Addr} {fd : FuncData} {e : Expr} {es : List Expr} {rest : List Stmt} {p0 p1 p2 pos pos' : Pos} {ns : List Str} {m : Nat} {ar : Arg}
    (D : SupD P K qual params (.Expr (.Call (.Attribute (.Call (.Name "super" p0) [] [] p1) "__init__" p2) (e :: es) [] pos) pos' :: rest) scope C f fd) (T : OexC K C) (S : SupScope N N scope n0)
    (hp : (params.posonlyargs ++ params.args).head? = some ar) (har : ar.arg = n0) (SA : SupArgs N scope (e :: es)) (hz : es.length ≤ 100) (hN : N.length = m)
    (hrest : ∀ X : Cx, X.N = N → X.env.scope = scope → X.K = K → ∃ t, PSs X rest t ∧ ∀ vs H Q, spIC K C ns m vs H Q (fun _ _ _ => False) → t { nx := fun _ H' => Q .non H', rt := Q } (L2.start N vs) H)
    (he : ∀ env : PySem.Env, starEach (e :: es) env = (false, eval e env) :: starEach es env) (hpl : ∀ env : PySem.Env, (backTo pos (starEach es env)).any (·.1) = false)
    (hsw : ∀ env : PySem.Env, swapsWith (.Call (.Attribute (.Call (.Name "super" p0) [] [] p1) "__init__" p2) (e :: es) [] pos) none pos'.line env = pure false)
    (hc : ∀ env : PySem.Env, ∃ pl : Sem Bool, eval (.Call (.Attribute (.Call (.Name "super" p0) [] [] p1) "__init__" p2) (e :: es) [] pos) env = (do
      let ov ← attributeBase (.Call (.Name "super" p0) [] [] p1) "__init__" env (eval (.Call (.Name "super" p0) [] [] p1) env)
      standAt p2.atName
      let (f, first) ← holding [ov] (getMethod ov "__init__" pl)
      callWith pos f first (backTo pos (starEach (e :: es) env)) [])) :
    FnOk P w K mg base (L2N.CX P w) 1 f fd N (spIC K C ns m) := by
  obtain ⟨⟨oc, od, kV, doc, pm, an, cda, ct, osl, cc, c1, c2, fs, c3, file, tf, e1, e2, e3, rfl, lf, hcd, lc, hf2, hfile, lcc⟩, hsup, hfree, hstat, htop⟩ := D
  refine ⟨fun vs H Q E q => by rw [q.1, hN], fun A outer s H args us vs Q E hr e0 hb r hsp => ?_⟩
  have hl : vs.length = N.length := by rw [hsp.1, hN]
  have KB : K.In base := e0.mod.kin
  have KX : K.In s.heap := KB.keeps fun b o e => (e0.bs b o e).1
  have lim : s.heap.NoLimit := e0.mod.nolimit.keeps fun b o e => (e0.bs b o e).1
  have hpar : ∀ y ∈ N.zip us, scope.names.lookup y.1 = some .local := fun ⟨n, v⟩ hy => S.par n (List.of_mem_zip hy).1
  refine ks_codeAny_call_defAt (fd := ksFn "__init__" qual params _ scope .none kV doc pm an (.ref cda) ct cc) hr.depth (KX _ _ lf) rfl lim (codeRec_of KX hcd) rfl hb S.nocell hpar (fun h1 hns hk => ?_) S.co S.gen S.kind
  show _root_.PySem.wpAt (model P w) (A.deeper (ksEnv qual scope s.heap.objs.size f (.ref cda) cc)) (.func _ (ksEnv qual scope s.heap.objs.size f (.ref cda) cc)) (execs _ (ksEnv qual scope s.heap.objs.size f (.ref cda) cc)) _ _ _
  generalize hX : supX P w K mg base N qual scope f (.ref cda) cc A outer s H (fun e s' => wpAny (model P w) (A.deeper (ksEnv qual scope s.heap.objs.size f (.ref cda) cc)) (leaving (ksEnv qual scope s.heap.objs.size f (.ref cda) cc) e)
    (fun _ s'' => L2.CR (L2N.CX P w) outer P w H s Q E (.error e) s'') (fun e' s'' => L2.CR (L2N.CX P w) outer P w H s Q E (.error e') s'') s') = X
  have I0 : Inv X [] (L2.start N vs) H { s with heap := h1, toks := s.toks + (N.zip us).length } := by
    rw [← hX]
    exact sup_inv S hr.hd e0 hl r hns hk (KB _ _ lcc) rfl
  have hq := hsp
  obtain ⟨_, a, xs, ev, hxl, _, ha, hno, hpost⟩ := hsp
  obtain ⟨nm, q, Nc, bs, bm, sn, sub, ab, col, dd, k0, k1, k2, k3, k5, hC, hbm⟩ := T.cls
  have hcl : PySem.W.clsIn K C = some { name := nm, bases := bs, mro := .ref C :: bm, ns := Nc, qualname := q, hasDict := true, slotNames := sn, subclasses := sub, abstract := ab, collection := col, hasDel := false } := by
    unfold PySem.W.clsIn
    rw [hC]
  have hus : us[0]? = some (.ref a) := by
    obtain ⟨u, hu, rv⟩ := r.get (i := 0) (by rw [ev]; rfl)
    rw [hu]
    exact congrArg some rv
  have hself : (N.zip us).reverse.lookup n0 = some (.ref a) := look_zip S.nd (by rw [← hl]; exact r.length.symm) S.head hus
  obtain ⟨ta, hta, hread⟩ := SA.reads (X := X) (by rw [← hX]; rfl) (by rw [← hX]; rfl)
  obtain ⟨tr, htr, hfin⟩ := hrest X (by rw [← hX]; rfl) (by rw [← hX]; rfl) (by rw [← hX]; rfl)
  obtain ⟨pl, hpl2⟩ := hc (ksEnv qual scope s.heap.objs.size f (.ref cda) cc)
  have K1 : K.In h1 := KX.keeps hk
  have kb : ∀ b o, base.get? b = some o → h1.get? b = some o := fun b o z => hk _ _ (e0.bs b o z).1
  obtain ⟨mb, hmb1, hmb2⟩ := e0.mod.blt
  obtain ⟨t1, hax⟩ := exo_at I0.hok ha
  have hmr : PySem.W.mroIn K C (.ref C) = some true := sup_mro hcl (by show (Value.ref C :: bm).contains (.ref C) = true; rw [List.contains_cons, beq_self_eq_true, Bool.true_or]) rfl
  have hve : PySem.W.mroIn K C (.type "ValueError") = some true := sup_mro hcl ((PySem.HandSPX.refsVE_contains "ValueError" (.ref C :: bm) hbm).trans (by decide +kernel)) rfl
  refine ks_wpAt_execs_cons (ks_wpAt_Expr_any (ks_wpAt_MethodCall (pl := pl) ?_ hpl2) (by simp [interactive, S.kind]) (hsw _))
  refine ks_wpAt_super_base (env := ksEnv qual scope s.heap.objs.size f (.ref cda) cc) S.sup S.cls rfl rfl (K1 _ _ lf) rfl hp rfl (K1 _ _ lc) rfl hf2 hfile htop ?_
  refine ks_loadName_global S.kind S.sup (Calls.loadGlobal_builtin (env := ksEnv qual scope s.heap.objs.size f (.ref cda) cc) (e0.mod.glob.keeps kb) (PySem.W.mg_none_of KB e0.mod.glob hfree) (hmb1.keeps kb) ((hmb2 _ (by decide)).trans PyProof.Rows.Boot.«super») ⟨rfl, ?_⟩)
  refine wpAny_loadName_free S.kind S.cls rfl ⟨_, K1 _ _ lcc, rfl⟩ ?_
  refine wpAny_loadName_local S.kind (S.par ar.arg (by rw [har]; exact List.mem_of_getElem? S.head)) hns (by rw [har]; exact hself) ?_
  refine ks_wpAny_isType_cls (K1 _ _ hC) rfl ⟨rfl, ?_⟩
  refine ks_wpAny_call_super (K1 _ _ hC) rfl hax rfl (fun c z => by cases z) (looks_mroIn K1 hmr) fun h2 hso k12 => ?_
  have K2 : K.In h2 := K1.keeps k12
  have hxC : a ≠ C := fun z => by
    rw [z, K1 _ _ hC] at hax
    cases hax
  have I2 : Inv X [] (L2.start N vs) H ⟨h2, s.gens, s.drawn, s.toks + (N.zip us).length, s.os⟩ := I0.kept (t' := s.toks + (N.zip us).length) k12
  have IA : InstAt h2 a _ C none := ⟨k12 _ _ hax, rfl, rfl, trivial⟩
  have hsup2 : PySem.W.alongIn K "__init__" (((Value.ref C :: bm).dropWhile (· != .ref C)).drop 1) = some (some (.builtin "ValueError.__init__")) := by
    unfold ks_superIn at hsup
    rw [hcl] at hsup
    exact hsup
  refine kxs_getMethod kxs_ValueError hso (looks_opaque K2 hstat) (l₀ := .ref C :: bm) (fun A Q E s k q => wpAny_bind ((looks_clsIn K2 hcl) A _ E s k (wpAny_pure q))) rfl K2 hsup2 (IA.type.andThen (looks_mroIn K2 hve)) hxC rfl ?_
  show wpAny _ _ (callWith pos (.ref h2.objs.size) [] (backTo pos (starEach (e :: es) (ksEnv qual scope s.heap.objs.size f (.ref cda) cc))) []) _ _ _
  have km : ∀ b o, h2.get? b = some o → (h2.push (kxs_mw "ValueError.__init__" a)).get? b = some o := fun b o z => Heap.get?_push_of_some _ z
  have hmw : (h2.push (kxs_mw "ValueError.__init__" a)).get? h2.objs.size = some (kxs_mw "ValueError.__init__" a) := Heap.get?_push_at rfl rfl
  have I3 : Inv X [(h2.objs.size, kxs_mw "ValueError.__init__" a)] (L2.start N vs) H ⟨h2.push (kxs_mw "ValueError.__init__" a), s.gens, s.drawn, s.toks + (N.zip us).length + 1, s.os⟩ := by
    refine (I2.kept (t' := s.toks + (N.zip us).length + 1) km).pins_of fun p hp => ?_
    obtain rfl : p = (h2.objs.size, kxs_mw "ValueError.__init__" a) := by simpa using hp
    exact ⟨hmw, I2.hok.fresh (Nat.le_refl _), fun z => absurd I2.lt (by rw [← z]; exact Nat.lt_irrefl _), I2.nofs (Nat.le_refl _), fun v z => by cases z⟩
  have args := hta.run pos [(h2.objs.size, kxs_mw "ValueError.__init__" a)] _ (L2.start N vs) H (fun vs' H' => H' = H ∧ vs'.length = (e :: es).length) I3 (hread _ _ _ (fun i x hx => by
      have hi : i < vs.length := by rw [hl]; exact (List.getElem?_eq_some_iff.mp hx).1
      exact ⟨vs[i], by unfold L2.start; rw [List.getElem?_append_left (by simpa using hi), List.getElem?_map, List.getElem?_eq_getElem hi]; rfl⟩) fun vs' hl' => ⟨rfl, hl'⟩)
  subst hX
  rw [he]
  refine kxs_callWith (i := "ValueError.__init__") (x := a) (by show (false || (backTo pos (starEach es _)).any (·.1)) = false; rw [hpl]; rfl) (Calls.evalArgs_plain ?_)
  refine wpAny_mono (by rw [he] at args; exact args) (fun us' s4 got => ?_) (fun ee s' q => by exact q)
  obtain ⟨vs', H4, I4, r4, q4, l4⟩ := got
  subst q4
  have hu4 := (I4.pin _ (List.mem_append_right _ (List.mem_singleton.mpr rfl))).1
  refine ⟨hu4, ?_⟩
  obtain ⟨t4, hx4⟩ := exo_at I4.hok ha
  have hlen : us'.length ≤ sizeLine := by
    rw [← Paired.length r4, sizeLine_eq, l4]
    show es.length + 1 ≤ _
    omega
  obtain ⟨hp4, g4, d4, tk4, os4⟩ := s4
  show wpAny _ _ (call (.ref h2.objs.size) us') _ _ _
  refine sup_call (I4.kIn _ _ hC) hx4 hu4 hlen fun h5 t5 k5 hx5 => ?_
  have I5 := I4.write (t' := tk4) (x := a) (e := a) (o := exo a C none) (by rw [ha]; exact True.intro) (.inl rfl) k5 ⟨_, hx5⟩ (exo_ok hx5)
  have eu : upd H4 a (exo a C none) = H4 := by
    funext b
    by_cases hb : b = a
    · rw [hb, upd_same, ha]
    · rw [upd_ne hb]
  rw [eu] at I5
  have I6 := I5.pins_of (pins' := []) (fun p hp => absurd hp (by simp))
  refine _root_.PySem.wpAt_of_wpAny (wpAny_mono (htr.run [] _ (L2.start N vs) H4 _ I6 (hfin vs H4 Q ⟨hq.1, hq.2⟩)) (fun fl s' hs => ?_) fun ee s' q => q)
  have fin : ∀ {xe : Value → Shared → Prop} {σ' : St} {H' : Hp} {v : V} {u : Value}, Inv (supX P w K mg base N qual scope f (.ref cda) cc A outer s H4 xe) [] σ' H' s' → RelV v u → Q v H' → CE outer P w H4 s Q u s' :=
    fun {xe σ' H' v u} J rv q => ⟨v, H', J.os, J.bare, J.base, J.hok, rv, q⟩
  cases fl with
  | ret u =>
    obtain ⟨v, σ', H', J, rv, q⟩ := hs
    exact fin J rv q
  | next =>
    obtain ⟨σ', H', J, q⟩ := hs
    exact fin (v := V.non) (u := Value.none) J rfl q
  | brk =>
    obtain ⟨_, _, _, q⟩ := hs
    exact False.elim q
  | cont =>
    obtain ⟨_, _, _, q⟩ := hs
    exact False.elim q
theorem sup_rest1 {N : List Str} {sc : Scope} {C : Addr} {n0 n1 f1 : Str} {p1 p2 p3 p4 : Pos} (X : Cx) (hN : X.N = [n0, n1]) (hs : X.env.scope = sc) (v0 : L2.Vis sc n0) (v1 : L2.Vis sc n1)
    (d0 : (n0 == ("__debug__" : Str)) = false) (d1 : (n1 == ("__debug__" : Str)) = false) (c0 : (n0 == ("__classdict__" : Str)) = false) (c1 : (n1 == ("__classdict__" : Str)) = false)
    (hsw : ∀ env : PySem.Env, swapsWith (.Name n1 p3) (some (.Attribute (.Name n0 p1) f1 p2)) p4.line env = pure false) :
    ∃ t, PSs X [.Assign [.Attribute (.Name n0 p1) f1 p2] (.Name n1 p3) p4] t ∧ ∀ vs H Q, spIC X.K C [f1] 2 vs H Q (fun _ _ _ => False) → t { nx := fun _ H' => Q .non H', rt := Q } (L2.start [n0, n1] vs) H := by
  refine ⟨_, L2.pss_one (L2.ps_ost (L2.pe_var (i := 0) (by rw [hN]; rfl) (by rw [hs]; exact v0) d0 c0) (L2.pe_var (i := 1) (by rw [hN]; rfl) (by rw [hs]; exact v1) d1 c1) (hsw _)), fun vs H Q h => ?_⟩
  obtain ⟨hl, a, xs, ev, hx, T, ha, hno, hq⟩ := h
  subst ev
  match xs, hx with
  | [y], _ =>
    refine ⟨y, rfl, .ref a, rfl, a, C, rfl, T, hno f1 (List.mem_cons_self ..), .inl ⟨ha, fun dx hn ne => hq dx _ hn ne ?_ ?_ fun b b1 b2 => ?_⟩⟩
    · rw [upd_ne ne, upd_same]; rfl
    · rw [upd_same]
    · rw [upd_ne b1, upd_ne b2]
theorem sup_rest2 {N : List Str} {sc : Scope} {C : Addr} {n0 n1 n2 f1 f2 : Str} {p1 p2 p3 p4 p5 p6 p7 p8 : Pos} (X : Cx) (hN : X.N = [n0, n1, n2]) (hs : X.env.scope = sc) (v0 : L2.Vis sc n0) (v1 : L2.Vis sc n1) (v2 : L2.Vis sc n2)
    (d0 : (n0 == ("__debug__" : Str)) = false) (d1 : (n1 == ("__debug__" : Str)) = false) (d2 : (n2 == ("__debug__" : Str)) = false) (c0 : (n0 == ("__classdict__" : Str)) = false) (c1 : (n1 == ("__classdict__" : Str)) = false) (c2 : (n2 == ("__classdict__" : Str)) = false)
    (hs1 : ∀ env : PySem.Env, swapsWith (.Name n1 p3) (some (.Attribute (.Name n0 p1) f1 p2)) p4.line env = pure false) (hs2 : ∀ env : PySem.Env, swapsWith (.Name n2 p7) (some (.Attribute (.Name n0 p5) f2 p6)) p8.line env = pure false) :
    ∃ t, PSs X [.Assign [.Attribute (.Name n0 p1) f1 p2] (.Name n1 p3) p4, .Assign [.Attribute (.Name n0 p5) f2 p6] (.Name n2 p7) p8] t ∧ ∀ vs H Q, spIC X.K C [f1, f2] 3 vs H Q (fun _ _ _ => False) → t { nx := fun _ H' => Q .non H', rt := Q } (L2.start [n0, n1, n2] vs) H := by
  refine ⟨_, L2.pss_cons (L2.ps_ost (L2.pe_var (i := 0) (by rw [hN]; rfl) (by rw [hs]; exact v0) d0 c0) (L2.pe_var (i := 1) (by rw [hN]; rfl) (by rw [hs]; exact v1) d1 c1) (hs1 _))
    (L2.pss_one (L2.ps_ost (L2.pe_var (i := 0) (by rw [hN]; rfl) (by rw [hs]; exact v0) d0 c0) (L2.pe_var (i := 2) (by rw [hN]; rfl) (by rw [hs]; exact v2) d2 c2) (hs2 _))), fun vs H Q h => ?_⟩
  obtain ⟨hl, a, xs, ev, hx, T, ha, hno, hq⟩ := h
  subst ev
  match xs, hx with
  | [y, z], _ =>
    refine ⟨y, rfl, .ref a, rfl, a, C, rfl, T, hno f1 (List.mem_cons_self ..), .inl ⟨ha, fun dx hn ne => ?_⟩⟩
    refine ⟨z, rfl, .ref a, rfl, a, C, rfl, T, hno f2 (List.mem_cons_of_mem _ (List.mem_cons_self ..)), .inr ⟨dx, [(f1, y)], upd_same, by rw [upd_ne ne, upd_same], by simp, hq dx _ hn ne ?_ ?_ fun b b1 b2 => ?_⟩⟩
    · rw [upd_same]; rfl
    · rw [upd_ne (Ne.symm ne), upd_same]
    · rw [upd_ne b2, upd_ne b1, upd_ne b2]
end
structure MainOk (P : Program) : Prop where
  file : ((P.main.file : Str) == ("/claim/cut.py" : Str)) = true
  top : (P.main.scope.names.lookup ("super" : Str)).isSome = false
section
open He (ga ma eqO eqO_ok dflB dflB_ok kwdB kwdB_ok FnW frG frG_in asD ba)
def ckStat (K : PySem.W.Frag) : Bool := eqO (PySem.W.nsIn K cStatics "thirdparty.any") (some none)
def ckSup (C : Str) (K : PySem.W.Frag) : Bool := (match K.lookup (ma K (ga K C) "__init__") with
  | some ⟨_, _, .func fd, _⟩ => (match fd.code, fd.closure with
    | .ref cda, [(_, cc)] => (match K.lookup cda with
        | some ⟨_, _, .fields vs, _⟩ => (match vs.toList with
          | _ :: _ :: .str fl _ :: _ => fl == ("/claim/cut.py" : Str)
          | _ => false)
        | _ => false) && (match K.lookup cc with
        | some ⟨_, _, .cell (some (.ref D)), _⟩ => decide (D = ga K C)
        | _ => false)
    | _, _ => false)
  | _ => false) && eqO (PySem.W.ks_superIn K (ga K C) (ga K C) "__init__") (some (some (.builtin "ValueError.__init__")))
theorem ckSup_ok {P : Program} {K : PySem.W.Frag} {C : Str} {d : DefH} (M : MainOk P) (c : ckSup C K = true) (cf : ckFree "super" K = true) (cs : ckStat K = true) (hd : d.ad K = ma K (ga K C) "__init__") (hn : d.name = "__init__") (hdf : d.dfl = []) (hc : d.clo = [("__class__" : Str)]) (e : fnH K (d.ad K) = d.val) (ok : d.ok K = true) :
    ∃ fd, SupD P K d.qual d.params d.body d.scope (ga K C) (d.ad K) fd ∧ PySem.W.typeIn K (.ref (d.ad K)) = some (.type "function") := by
  obtain ⟨kp, c1⟩ := ba ok
  obtain ⟨ty, c2⟩ := ba c1
  have ty := of_decide_eq_true ty
  obtain ⟨s1, s2⟩ := ba c
  unfold fnH at e
  rw [← hd] at s1
  cases q : K.lookup (d.ad K) with
  | none => rw [q] at c2; cases c2
  | some o =>
    obtain ⟨oc, od, dt, osl⟩ := o
    rw [q] at c2 e s1
    cases dt with
    | func fd =>
      obtain ⟨m1, m2, m3, m4, m5, m6, m7, m8, m9, m10, m11, m12, m13, m14, m15⟩ := fd
      have e2 : (some (m1, m2, m3, m4, m5, m6, m7.map (fun p => (p.1, 0)), m15) : FnW) = some (d.name, d.qual, d.params, .stmts d.body, d.scope, mainGlobals, d.clo.map (fun n => (n, 0)), builtinsNs) := e
      simp only [Option.some.injEq, Prod.mk.injEq] at e2
      obtain ⟨h1, h2, h3, h4, h5, h6, h7, h8⟩ := e2
      subst h1 h2 h3 h4 h5 h6 h8
      have c3 : (PySem.W.codeIn K m13 d.qual && (dflB K m8 d.dfl && kwdB K m9 [])) = true := c2
      obtain ⟨k1, k2⟩ := ba c3
      obtain ⟨k3, k4⟩ := ba k2
      rw [hdf] at k3
      have k5 := dflB_ok k3
      obtain ⟨_, rfl⟩ : ([] : List V) = [] ∧ m8 = .none := by
        rcases k5 with z | ⟨z, _⟩
        · exact z
        · exact absurd rfl z
      simp only at s1
      split at s1
      · rename_i cda nn cc
        obtain ⟨s3, s4⟩ := ba s1
        split at s3
        · rename_i g1 g2 vs g3 el
          split at s3
          · rename_i x0 x1 fl tf xr ev
            split at s4
            · rename_i j1 j2 D j3 ec
              have hD : D = ga K C := of_decide_eq_true s4
              subst hD
              have hnn : nn = "__class__" := by
                rw [hc] at h7
                simpa using h7
              subst hnn
              have hfl := eq_of_beq s3
              subst hfl
              refine ⟨_, ⟨⟨oc, od, m9, m10, m11, m12, cda, m14, osl, cc, g1, g2, vs, g3, _, tf, j1, j2, j3, ?_, q, k1, el, ?_, M.file, ec⟩, eqO_ok s2, eqO_ok cf, eqO_ok cs, M.top⟩, ty⟩
              · rw [← hn]
              · obtain ⟨l⟩ := vs
                simp only at ev
                subst ev
                rfl
            · cases s4
          · cases s3
        · cases s3
      · cases s1
    | _ => cases c2
theorem SaysH.raw {cks : List (PySem.W.Frag → Bool)} {fns : List DefH} {bls : List (Str × String)} {K : PySem.W.Frag} (c : SaysH cks fns bls K) (i : Nat) {d : DefH} (h : fns[i]? = some d) : fnH K (d.ad K) = d.val ∧ d.ok K = true := by
  have c2 := (ba (show ((cks.all fun f => f K) && fns.all fun d => d.ok K) = true from congrArg (fun z : AlH => z.1) c)).2
  have e : fns.map (fun d => fnH K (d.ad K)) = fns.map DefH.val := congrArg (fun z : AlH => z.2.1) c
  have e2 : (fns.map fun d => fnH K (d.ad K))[i]? = (fns.map DefH.val)[i]? := by rw [e]
  rw [List.getElem?_map, List.getElem?_map, h] at e2
  exact ⟨Option.some.inj e2, List.all_eq_true.mp c2 d (List.mem_of_getElem? h)⟩
variable {P : Program} {w : World} {K : PySem.W.Frag} {mg : Str → Option Value} {base : Heap}
theorem excS1 {x n0 n1 f1 : Str} {ar : Arg} {d : DefH} {e : Expr} {es : List Expr} {p0 p1 p2 p3 p4 p5 p6 p7 p8 : Pos} (M : MainOk P) (hC : ckExc x K = true) (iC : ckMeth x "__init__" K = true) (hs : ckSup x K = true) (cf : ckFree "super" K = true) (cs : ckStat K = true)
    (D : fnH K (d.ad K) = d.val ∧ d.ok K = true) (hm : mg x = some (.ref (ga K x))) (hno : ckNoat x f1 K = true) (hd : d.ad K = ma K (ga K x) "__init__") (hn : d.name = "__init__") (hdf : d.dfl = []) (hcl : d.clo = [("__class__" : Str)])
    (eb : d.body = [.Expr (.Call (.Attribute (.Call (.Name "super" p0) [] [] p1) "__init__" p2) (e :: es) [] p3) p4, .Assign [.Attribute (.Name n0 p5) f1 p6] (.Name n1 p7) p8])
    (S : SupScope [n0, n1] [n0, n1] d.scope n0) (hp : (d.params.posonlyargs ++ d.params.args).head? = some ar) (har : ar.arg = n0) (SA : SupArgs [n0, n1] d.scope (e :: es)) (hz : es.length ≤ 100)
    (hb : ∀ (kV doc pm : Value) (an : Option Addr) (cdv ct : Value) (cc : Addr) (us : List Value), us.length = 2 → bindArgs (PySem.W.ksFn "__init__" d.qual d.params d.body d.scope .none kV doc pm an cdv ct cc) ⟨us, []⟩ = pure ([n0, n1].zip us))
    (d0 : (n0 == ("__debug__" : Str)) = false) (d1 : (n1 == ("__debug__" : Str)) = false) (c0 : (n0 == ("__classdict__" : Str)) = false) (c1 : (n1 == ("__classdict__" : Str)) = false)
    (hsw : ∀ env : PySem.Env, swapsWith (.Name n1 p7) (some (.Attribute (.Name n0 p5) f1 p6)) p8.line env = pure false)
    (he : ∀ env : PySem.Env, starEach (e :: es) env = (false, eval e env) :: starEach es env) (hpl : ∀ env : PySem.Env, (backTo p3 (starEach es env)).any (·.1) = false)
    (hsu : ∀ env : PySem.Env, swapsWith (.Call (.Attribute (.Call (.Name "super" p0) [] [] p1) "__init__" p2) (e :: es) [] p3) none p4.line env = pure false)
    (hc : ∀ env : PySem.Env, ∃ pl : Sem Bool, eval (.Call (.Attribute (.Call (.Name "super" p0) [] [] p1) "__init__" p2) (e :: es) [] p3) env = (do
      let ov ← attributeBase (.Call (.Name "super" p0) [] [] p1) "__init__" env (eval (.Call (.Name "super" p0) [] [] p1) env)
      standAt p2.atName
      let (f, first) ← holding [ov] (getMethod ov "__init__" pl)
      callWith p3 f first (backTo p3 (starEach (e :: es) env)) [])) : ExcH P w K mg base x (ga K x) [f1] := by
  obtain ⟨fd, SD, tI⟩ := ckSup_ok (P := P) M hs cf cs hd hn hdf hcl D.1 D.2
  have B : Binds K fd [n0, n1] [] := by
    obtain ⟨oc, od, kV, doc, pm, an, cda, ct, osl, cc, _, _, _, _, _, _, _, _, _, rfl, _⟩ := SD.ex
    exact .all (hb kV doc pm an (.ref cda) ct cc)
  rw [eb] at SD
  have T := ckExc_ok hC
  rw [hd] at SD tI
  have v0 : L2.Vis d.scope n0 := .inl (S.par n0 (by simp))
  have v1 : L2.Vis d.scope n1 := .inl (S.par n1 (by simp))
  exact ⟨_, fd, [n0, n1], T, ckMeth_ok iC, tI, sup_ok (ns := [f1]) (m := 2) SD T S hp har SA hz rfl (fun X h1 h2 h3 => by rw [← h3]; exact sup_rest1 (N := [n0, n1]) X h1 h2 v0 v1 d0 d1 c0 c1 hsw) he hpl hsu hc, B, hm, fun n hn => by
    rw [List.mem_singleton.mp hn]; exact ckNoat_ok hno⟩
theorem excS2 {x n0 n1 n2 f1 f2 : Str} {ar : Arg} {d : DefH} {e : Expr} {es : List Expr} {p0 p1 p2 p3 p4 p5 p6 p7 p8 q5 q6 q7 q8 : Pos} (M : MainOk P) (hC : ckExc x K = true) (iC : ckMeth x "__init__" K = true) (hs : ckSup x K = true) (cf : ckFree "super" K = true) (cs : ckStat K = true)
    (D : fnH K (d.ad K) = d.val ∧ d.ok K = true) (hm : mg x = some (.ref (ga K x))) (hno : ckNoat x f1 K = true) (hno2 : ckNoat x f2 K = true) (hd : d.ad K = ma K (ga K x) "__init__") (hn : d.name = "__init__") (hdf : d.dfl = []) (hcl : d.clo = [("__class__" : Str)])
    (eb : d.body = [.Expr (.Call (.Attribute (.Call (.Name "super" p0) [] [] p1) "__init__" p2) (e :: es) [] p3) p4, .Assign [.Attribute (.Name n0 p5) f1 p6] (.Name n1 p7) p8, .Assign [.Attribute (.Name n0 q5) f2 q6] (.Name n2 q7) q8])
    (S : SupScope [n0, n1, n2] [n0, n1, n2] d.scope n0) (hp : (d.params.posonlyargs ++ d.params.args).head? = some ar) (har : ar.arg = n0) (SA : SupArgs [n0, n1, n2] d.scope (e :: es)) (hz : es.length ≤ 100)
    (hb : ∀ (kV doc pm : Value) (an : Option Addr) (cdv ct : Value) (cc : Addr) (us : List Value), us.length = 3 → bindArgs (PySem.W.ksFn "__init__" d.qual d.params d.body d.scope .none kV doc pm an cdv ct cc) ⟨us, []⟩ = pure ([n0, n1, n2].zip us))
    (d0 : (n0 == ("__debug__" : Str)) = false) (d1 : (n1 == ("__debug__" : Str)) = false) (d2 : (n2 == ("__debug__" : Str)) = false) (c0 : (n0 == ("__classdict__" : Str)) = false) (c1 : (n1 == ("__classdict__" : Str)) = false) (c2 : (n2 == ("__classdict__" : Str)) = false)
    (hsw : ∀ env : PySem.Env, swapsWith (.Name n1 p7) (some (.Attribute (.Name n0 p5) f1 p6)) p8.line env = pure false) (hsw2 : ∀ env : PySem.Env, swapsWith (.Name n2 q7) (some (.Attribute (.Name n0 q5) f2 q6)) q8.line env = pure false)
    (he : ∀ env : PySem.Env, starEach (e :: es) env = (false, eval e env) :: starEach es env) (hpl : ∀ env : PySem.Env, (backTo p3 (starEach es env)).any (·.1) = false)
    (hsu : ∀ env : PySem.Env, swapsWith (.Call (.Attribute (.Call (.Name "super" p0) [] [] p1) "__init__" p2) (e :: es) [] p3) none p4.line env = pure false)
    (hc : ∀ env : PySem.Env, ∃ pl : Sem Bool, eval (.Call (.Attribute (.Call (.Name "super" p0) [] [] p1) "__init__" p2) (e :: es) [] p3) env = (do
      let ov ← attributeBase (.Call (.Name "super" p0) [] [] p1) "__init__" env (eval (.Call (.Name "super" p0) [] [] p1) env)
      standAt p2.atName
      let (f, first) ← holding [ov] (getMethod ov "__init__" pl)
      callWith p3 f first (backTo p3 (starEach (e :: es) env)) [])) : ExcH P w K mg base x (ga K x) [f1, f2] := by
  obtain ⟨fd, SD, tI⟩ := ckSup_ok (P := P) M hs cf cs hd hn hdf hcl D.1 D.2
  have B : Binds K fd [n0, n1, n2] [] := by
    obtain ⟨oc, od, kV, doc, pm, an, cda, ct, osl, cc, _, _, _, _, _, _, _, _, _, rfl, _⟩ := SD.ex
    exact .all (hb kV doc pm an (.ref cda) ct cc)
  rw [eb] at SD
  have T := ckExc_ok hC
  rw [hd] at SD tI
  have v0 : L2.Vis d.scope n0 := .inl (S.par n0 (by simp))
  have v1 : L2.Vis d.scope n1 := .inl (S.par n1 (by simp))
  have v2 : L2.Vis d.scope n2 := .inl (S.par n2 (by simp))
  exact ⟨_, fd, [n0, n1, n2], T, ckMeth_ok iC, tI, sup_ok (ns := [f1, f2]) (m := 3) SD T S hp har SA hz rfl (fun X h1 h2 h3 => by rw [← h3]; exact sup_rest2 (N := [n0, n1, n2]) X h1 h2 v0 v1 v2 d0 d1 d2 c0 c1 c2 hsw hsw2) he hpl hsu hc, B, hm, fun n hn => by
    rcases List.mem_cons.mp hn with z | z
    · rw [z]; exact ckNoat_ok hno
    · rw [List.mem_singleton.mp z]; exact ckNoat_ok hno2⟩
end
end FL
namespace K49
open PySem FL
open L2 (V Hp FnOk Vals Binds)
def topS (i : Nat) : Stmt := PySem.Challenge.pw_wherelaid_k49_whole_verdicts_and_widths.main.body.getD i (.Pass ⟨0, 0, 0, 0⟩)
abbrev si_1 : Stmt := L2.inClass (topS 3) 0
abbrev si_2 : Stmt := L2.inClass (topS 4) 0
abbrev si_3 : Stmt := L2.inClass (topS 5) 0
abbrev si_4 : Stmt := L2.inClass (topS 6) 0
abbrev si_5 : Stmt := L2.inClass (topS 7) 0
abbrev si_6 : Stmt := L2.inClass (topS 8) 0
abbrev si_7 : Stmt := L2.inClass (topS 9) 0
abbrev s__law_digits : Stmt := topS 42
abbrev s__law_tie : Stmt := topS 46
abbrev s__law_round_true : Stmt := topS 50
abbrev s__law_gcd : Stmt := topS 44
abbrev s__law_ratio : Stmt := topS 45
abbrev s__law_told : Stmt := topS 47
abbrev s__law_table : Stmt := topS 48
abbrev s__law_widest : Stmt := topS 52
abbrev s__law_cell : Stmt := topS 43
abbrev s__law_weights : Stmt := topS 49
abbrev s__law_verdict : Stmt := topS 51
abbrev s_is_whole : Stmt := topS 12
abbrev s_check_count : Stmt := topS 20
abbrev s_are_marks : Stmt := topS 21
abbrev s_compare : Stmt := topS 18
abbrev s_is_ratio : Stmt := topS 13
abbrev s_check_tellings : Stmt := topS 27
abbrev s_check_ties : Stmt := topS 23
abbrev s_negative : Stmt := topS 17
abbrev s_bounds_by : Stmt := topS 28
abbrev s_bottom_of : Stmt := topS 29
abbrev s_spread_amounts : Stmt := topS 30
abbrev s_NoCart___init__ : Stmt := L2.inClass (topS 25) 0
abbrev s_ring_through : Stmt := topS 31
abbrev s__lowest : Stmt := topS 15
abbrev s_make_ratio : Stmt := topS 14
abbrev s_weights_by : Stmt := topS 33
abbrev s_check_fit : Stmt := topS 36
abbrev s_trail_back : Stmt := topS 32
abbrev s_farthest_sum : Stmt := topS 34
abbrev s_SumBounds___init__ : Stmt := L2.inClass (topS 26) 0
abbrev s_bounds_between : Stmt := topS 35
abbrev s_minus : Stmt := topS 16
abbrev s_next_tie : Stmt := topS 38
abbrev s_needless_tellings : Stmt := topS 39
abbrev s_suspect_tellings : Stmt := topS 40
abbrev s_check_marks : Stmt := topS 22
abbrev s_limit_verdict : Stmt := topS 37
abbrev s_law : Stmt := topS 53
end K49
namespace K49
open PySem FL
open L2 (V Hp FnOk Vals Binds)
def dn_0 : FL.DefH := ⟨fun K => He.ma K (He.ga K "BadRatio") "__init__", "__init__", "BadRatio.__init__", L2.defArgs si_1, L2.defBody si_1, L2.defScope si_1, [], []⟩
def dn_1 : FL.DefH := ⟨fun K => He.ma K (He.ga K "BadAmount") "__init__", "__init__", "BadAmount.__init__", L2.defArgs si_2, L2.defBody si_2, L2.defScope si_2, [], ["__class__"]⟩
def dn_2 : FL.DefH := ⟨fun K => He.ma K (He.ga K "BadCount") "__init__", "__init__", "BadCount.__init__", L2.defArgs si_3, L2.defBody si_3, L2.defScope si_3, [], ["__class__"]⟩
def dn_3 : FL.DefH := ⟨fun K => He.ma K (He.ga K "BadTie") "__init__", "__init__", "BadTie.__init__", L2.defArgs si_4, L2.defBody si_4, L2.defScope si_4, [], ["__class__"]⟩
def dn_4 : FL.DefH := ⟨fun K => He.ma K (He.ga K "BadMarks") "__init__", "__init__", "BadMarks.__init__", L2.defArgs si_5, L2.defBody si_5, L2.defScope si_5, [], ["__class__"]⟩
def dn_5 : FL.DefH := ⟨fun K => He.ma K (He.ga K "BadTelling") "__init__", "__init__", "BadTelling.__init__", L2.defArgs si_6, L2.defBody si_6, L2.defScope si_6, [], ["__class__"]⟩
def dn_6 : FL.DefH := ⟨fun K => He.ma K (He.ga K "NoFit") "__init__", "__init__", "NoFit.__init__", L2.defArgs si_7, L2.defBody si_7, L2.defScope si_7, [], ["__class__"]⟩
def dn_7 : FL.DefH := ⟨fun K => He.ma K (He.ga K "SumBounds") "__init__", "__init__", "SumBounds.__init__", L2.defArgs s_SumBounds___init__, L2.defBody s_SumBounds___init__, L2.defScope s_SumBounds___init__, [], []⟩
def dn_8 : FL.DefH := ⟨fun K => He.ma K (He.ga K "NoCart") "__init__", "__init__", "NoCart.__init__", L2.defArgs s_NoCart___init__, L2.defBody s_NoCart___init__, L2.defScope s_NoCart___init__, [], []⟩
def dn_9 : FL.DefH := ⟨fun K => He.ga K "_law_digits", "_law_digits", "_law_digits", L2.defArgs s__law_digits, L2.defBody s__law_digits, L2.defScope s__law_digits, [], []⟩
def dn_10 : FL.DefH := ⟨fun K => He.ga K "_law_tie", "_law_tie", "_law_tie", L2.defArgs s__law_tie, L2.defBody s__law_tie, L2.defScope s__law_tie, [], []⟩
def dn_11 : FL.DefH := ⟨fun K => He.ga K "_law_round_true", "_law_round_true", "_law_round_true", L2.defArgs s__law_round_true, L2.defBody s__law_round_true, L2.defScope s__law_round_true, [], []⟩
def dn_12 : FL.DefH := ⟨fun K => He.ga K "_law_gcd", "_law_gcd", "_law_gcd", L2.defArgs s__law_gcd, L2.defBody s__law_gcd, L2.defScope s__law_gcd, [], []⟩
def dn_13 : FL.DefH := ⟨fun K => He.ga K "_law_ratio", "_law_ratio", "_law_ratio", L2.defArgs s__law_ratio, L2.defBody s__law_ratio, L2.defScope s__law_ratio, [], []⟩
def dn_14 : FL.DefH := ⟨fun K => He.ga K "_law_told", "_law_told", "_law_told", L2.defArgs s__law_told, L2.defBody s__law_told, L2.defScope s__law_told, [], []⟩
def dn_15 : FL.DefH := ⟨fun K => He.ga K "_law_table", "_law_table", "_law_table", L2.defArgs s__law_table, L2.defBody s__law_table, L2.defScope s__law_table, [], []⟩
def dn_16 : FL.DefH := ⟨fun K => He.ga K "_law_widest", "_law_widest", "_law_widest", L2.defArgs s__law_widest, L2.defBody s__law_widest, L2.defScope s__law_widest, [], []⟩
def dn_17 : FL.DefH := ⟨fun K => He.ga K "_law_cell", "_law_cell", "_law_cell", L2.defArgs s__law_cell, L2.defBody s__law_cell, L2.defScope s__law_cell, [], []⟩
def dn_18 : FL.DefH := ⟨fun K => He.ga K "_law_weights", "_law_weights", "_law_weights", L2.defArgs s__law_weights, L2.defBody s__law_weights, L2.defScope s__law_weights, [], []⟩
def dn_19 : FL.DefH := ⟨fun K => He.ga K "_law_verdict", "_law_verdict", "_law_verdict", L2.defArgs s__law_verdict, L2.defBody s__law_verdict, L2.defScope s__law_verdict, [], []⟩
def dn_20 : FL.DefH := ⟨fun K => He.ga K "is_whole", "is_whole", "is_whole", L2.defArgs s_is_whole, L2.defBody s_is_whole, L2.defScope s_is_whole, [.non, .non], []⟩
def dn_21 : FL.DefH := ⟨fun K => He.ga K "check_count", "check_count", "check_count", L2.defArgs s_check_count, L2.defBody s_check_count, L2.defScope s_check_count, [], []⟩
def dn_22 : FL.DefH := ⟨fun K => He.ga K "are_marks", "are_marks", "are_marks", L2.defArgs s_are_marks, L2.defBody s_are_marks, L2.defScope s_are_marks, [], []⟩
def dn_23 : FL.DefH := ⟨fun K => He.ga K "compare", "compare", "compare", L2.defArgs s_compare, L2.defBody s_compare, L2.defScope s_compare, [], []⟩
def dn_24 : FL.DefH := ⟨fun K => He.ga K "is_ratio", "is_ratio", "is_ratio", L2.defArgs s_is_ratio, L2.defBody s_is_ratio, L2.defScope s_is_ratio, [], []⟩
def dn_25 : FL.DefH := ⟨fun K => He.ga K "check_tellings", "check_tellings", "check_tellings", L2.defArgs s_check_tellings, L2.defBody s_check_tellings, L2.defScope s_check_tellings, [], []⟩
def dn_26 : FL.DefH := ⟨fun K => He.ga K "check_ties", "check_ties", "check_ties", L2.defArgs s_check_ties, L2.defBody s_check_ties, L2.defScope s_check_ties, [], []⟩
def dn_27 : FL.DefH := ⟨fun K => He.ga K "negative", "negative", "negative", L2.defArgs s_negative, L2.defBody s_negative, L2.defScope s_negative, [], []⟩
def dn_28 : FL.DefH := ⟨fun K => He.ga K "bounds_by", "bounds_by", "bounds_by", L2.defArgs s_bounds_by, L2.defBody s_bounds_by, L2.defScope s_bounds_by, [], []⟩
def dn_29 : FL.DefH := ⟨fun K => He.ga K "bottom_of", "bottom_of", "bottom_of", L2.defArgs s_bottom_of, L2.defBody s_bottom_of, L2.defScope s_bottom_of, [], []⟩
def dn_30 : FL.DefH := ⟨fun K => He.ga K "spread_amounts", "spread_amounts", "spread_amounts", L2.defArgs s_spread_amounts, L2.defBody s_spread_amounts, L2.defScope s_spread_amounts, [], []⟩
def dn_31 : FL.DefH := ⟨fun K => He.ga K "ring_through", "ring_through", "ring_through", L2.defArgs s_ring_through, L2.defBody s_ring_through, L2.defScope s_ring_through, [], []⟩
def dn_32 : FL.DefH := ⟨fun K => He.ga K "_lowest", "_lowest", "_lowest", L2.defArgs s__lowest, L2.defBody s__lowest, L2.defScope s__lowest, [], []⟩
def dn_33 : FL.DefH := ⟨fun K => He.ga K "make_ratio", "make_ratio", "make_ratio", L2.defArgs s_make_ratio, L2.defBody s_make_ratio, L2.defScope s_make_ratio, [(.int 1)], []⟩
def dn_34 : FL.DefH := ⟨fun K => He.ga K "weights_by", "weights_by", "weights_by", L2.defArgs s_weights_by, L2.defBody s_weights_by, L2.defScope s_weights_by, [], []⟩
def dn_35 : FL.DefH := ⟨fun K => He.ga K "check_fit", "check_fit", "check_fit", L2.defArgs s_check_fit, L2.defBody s_check_fit, L2.defScope s_check_fit, [], []⟩
def dn_36 : FL.DefH := ⟨fun K => He.ga K "trail_back", "trail_back", "trail_back", L2.defArgs s_trail_back, L2.defBody s_trail_back, L2.defScope s_trail_back, [], []⟩
def dn_37 : FL.DefH := ⟨fun K => He.ga K "farthest_sum", "farthest_sum", "farthest_sum", L2.defArgs s_farthest_sum, L2.defBody s_farthest_sum, L2.defScope s_farthest_sum, [], []⟩
def dn_38 : FL.DefH := ⟨fun K => He.ga K "bounds_between", "bounds_between", "bounds_between", L2.defArgs s_bounds_between, L2.defBody s_bounds_between, L2.defScope s_bounds_between, [], []⟩
def dn_39 : FL.DefH := ⟨fun K => He.ga K "minus", "minus", "minus", L2.defArgs s_minus, L2.defBody s_minus, L2.defScope s_minus, [], []⟩
def dn_40 : FL.DefH := ⟨fun K => He.ga K "next_tie", "next_tie", "next_tie", L2.defArgs s_next_tie, L2.defBody s_next_tie, L2.defScope s_next_tie, [], []⟩
def dn_41 : FL.DefH := ⟨fun K => He.ga K "needless_tellings", "needless_tellings", "needless_tellings", L2.defArgs s_needless_tellings, L2.defBody s_needless_tellings, L2.defScope s_needless_tellings, [], []⟩
def dn_42 : FL.DefH := ⟨fun K => He.ga K "suspect_tellings", "suspect_tellings", "suspect_tellings", L2.defArgs s_suspect_tellings, L2.defBody s_suspect_tellings, L2.defScope s_suspect_tellings, [], []⟩
def dn_43 : FL.DefH := ⟨fun K => He.ga K "check_marks", "check_marks", "check_marks", L2.defArgs s_check_marks, L2.defBody s_check_marks, L2.defScope s_check_marks, [], []⟩
def dn_44 : FL.DefH := ⟨fun K => He.ga K "limit_verdict", "limit_verdict", "limit_verdict", L2.defArgs s_limit_verdict, L2.defBody s_limit_verdict, L2.defScope s_limit_verdict, [], []⟩
def dn_45 : FL.DefH := ⟨fun K => He.ga K "law", "law", "law", L2.defArgs s_law, L2.defBody s_law, L2.defScope s_law, [], []⟩
def cks_0 : List (PySem.W.Frag → Bool) := [FL.ckFree "abs", FL.ckFree "bool", FL.ckFree "enumerate", FL.ckFree "int", FL.ckFree "isinstance", FL.ckFree "len", FL.ckFree "list", FL.ckFree "range", FL.ckFree "sum", FL.ckFree "tuple", FL.ckTup "ZERO" 0 1, FL.ckGlo "BadRatio", FL.ckExc "BadRatio", FL.ckMeth "BadRatio" "__init__", FL.ckNoat "BadRatio" "what", FL.ckGlo "BadAmount", FL.ckExc "BadAmount", FL.ckMeth "BadAmount" "__init__", FL.ckSup "BadAmount", FL.ckFree "super", FL.ckStat, FL.ckNoat "BadAmount" "amount", FL.ckGlo "BadCount", FL.ckExc "BadCount", FL.ckMeth "BadCount" "__init__", FL.ckSup "BadCount", FL.ckNoat "BadCount" "many", FL.ckGlo "BadTie", FL.ckExc "BadTie", FL.ckMeth "BadTie" "__init__", FL.ckSup "BadTie", FL.ckNoat "BadTie" "index", FL.ckNoat "BadTie" "what", FL.ckGlo "BadMarks", FL.ckExc "BadMarks", FL.ckMeth "BadMarks" "__init__", FL.ckSup "BadMarks", FL.ckNoat "BadMarks" "low", FL.ckNoat "BadMarks" "high", FL.ckGlo "BadTelling", FL.ckExc "BadTelling", FL.ckMeth "BadTelling" "__init__", FL.ckSup "BadTelling", FL.ckNoat "BadTelling" "index", FL.ckNoat "BadTelling" "what", FL.ckGlo "NoFit", FL.ckExc "NoFit", FL.ckMeth "NoFit" "__init__"]
def cks_1 : List (PySem.W.Frag → Bool) := [FL.ckSup "NoFit", FL.ckNoat "NoFit" "many", FL.ckGlo "NoCart", FL.ckGlo "SumBounds", FL.ckCls "SumBounds" ["least", "most", "least_trail", "most_trail"], FL.ckMeth "SumBounds" "__init__", FL.ckCls "NoCart" ["ring"], FL.ckMeth "NoCart" "__init__", FL.ckCn, FL.ckCt, FL.ckGlo "_law_digits", FL.ckGlo "_law_tie", FL.ckGlo "_law_round_true", FL.ckGlo "_law_gcd", FL.ckGlo "_law_ratio", FL.ckGlo "_law_told", FL.ckGlo "_law_table", FL.ckGlo "_law_widest", FL.ckGlo "_law_cell", FL.ckGlo "_law_weights", FL.ckGlo "_law_verdict", FL.ckGlo "is_whole", FL.ckGlo "check_count", FL.ckGlo "are_marks", FL.ckGlo "compare", FL.ckGlo "is_ratio", FL.ckGlo "check_tellings", FL.ckGlo "check_ties", FL.ckGlo "negative", FL.ckGlo "bounds_by", FL.ckGlo "bottom_of", FL.ckGlo "spread_amounts", FL.ckGlo "ring_through", FL.ckGlo "_lowest", FL.ckGlo "make_ratio", FL.ckGlo "weights_by", FL.ckGlo "check_fit", FL.ckGlo "trail_back", FL.ckGlo "farthest_sum", FL.ckGlo "bounds_between", FL.ckGlo "minus", FL.ckGlo "next_tie", FL.ckGlo "needless_tellings", FL.ckGlo "suspect_tellings", FL.ckGlo "check_marks", FL.ckGlo "limit_verdict", FL.ckGlo "law"]
def cks : List (PySem.W.Frag → Bool) := cks_0 ++ cks_1
def fns_0 : List FL.DefH := [dn_0, dn_1, dn_2, dn_3, dn_4, dn_5, dn_6, dn_7, dn_8, dn_9, dn_10, dn_11, dn_12, dn_13, dn_14, dn_15, dn_16, dn_17, dn_18, dn_19, dn_20, dn_21, dn_22]
def fns_1 : List FL.DefH := [dn_23, dn_24, dn_25, dn_26, dn_27, dn_28, dn_29, dn_30, dn_31, dn_32, dn_33, dn_34, dn_35, dn_36, dn_37, dn_38, dn_39, dn_40, dn_41, dn_42, dn_43, dn_44, dn_45]
def fns : List FL.DefH := fns_0 ++ fns_1
def bls_0 : List (Str × String) := [("gcd", "math.gcd")]
def bls_1 : List (Str × String) := [("lcm", "math.lcm")]
def bls : List (Str × String) := bls_0 ++ bls_1
def names_0 : List Str := ["ScaleError", "BadRatio", "BadAmount", "BadCount", "BadTie", "BadMarks", "BadTelling", "NoFit", "ZERO", "is_whole", "is_ratio", "make_ratio", "_lowest", "minus", "negative", "compare", "check_count", "are_marks", "check_marks", "check_ties", "NoCart", "SumBounds", "check_tellings", "bounds_by", "bottom_of", "spread_amounts", "ring_through", "trail_back", "weights_by", "farthest_sum"]
def names_1 : List Str := ["bounds_between", "check_fit", "limit_verdict", "next_tie", "needless_tellings", "suspect_tellings", "_law_digits", "_law_cell", "_law_gcd", "_law_ratio", "_law_tie", "_law_told", "_law_table", "_law_weights", "_law_round_true", "_law_verdict", "_law_widest"]
def names : List Str := names_0 ++ names_1
abbrev RR : PySem.W.OpenRow := PySem.W.OpenLaw.row PySem.Challenge.rw_wherelaid_k49_whole_verdicts_and_widths
def ob (s : PySem.W.SharedT) : FL.AlH := FL.obsHG 6 cks fns bls (HandSHeadRun.getT s)
theorem ob_eq (s : PySem.W.SharedT) : ob s = (FL.hookH 6 cks fns bls).obs s.abs := FL.obsHG_eq (HandSHeadRun.getT_eq s)
open PySem.W HandSHeadRun in
set_option maxHeartbeats 0 in
theorem run_l (w : World) : (HandSHeadRun.wholeF (fun p => HandSHeadRun.stepQ (HandSHeadRun.denQ HandSHeadRun.tabQ) p w) HandSHeadRun.fenceQ 40000 RR.prog).map (fun s => HandSHeadRun.looksF RR.prog s.1.heap s.2.abs) = some true := by
  kernel_rfl
open PySem.W HandSHeadRun in
set_option maxHeartbeats 0 in
theorem run_s (w : World) : (HandSHeadRun.wholeF (fun p => HandSHeadRun.stepQ (HandSHeadRun.denQ HandSHeadRun.tabQ) p w) HandSHeadRun.fenceQ 40000 RR.prog).map (fun s => HandSHeadRun.seenQ (PySem.W.view RR.prog [0, 53]) names (importedModules RR.prog.main.body) (fun s => xlAt (PySem.W.view RR.prog [0, 53]) [] s && recOk RR.toRowW.records s) s.2.abs) = some (openGood (PySem.W.view RR.prog [0, 53]) names) := by
  kernel_rfl
set_option maxHeartbeats 0 in
theorem run_0 (w : World) : (HandSHeadRun.wholeF (fun p => HandSHeadRun.stepQ (HandSHeadRun.denQ HandSHeadRun.tabQ) p w) HandSHeadRun.fenceQ 40000 RR.prog).map (fun s => FL.obP 6 cks_0 fns_0 bls_0 s.2) = some (FL.valH fns_0 bls_0) := by
  kernel_rfl
set_option maxHeartbeats 0 in
theorem run_1 (w : World) : (HandSHeadRun.wholeF (fun p => HandSHeadRun.stepQ (HandSHeadRun.denQ HandSHeadRun.tabQ) p w) HandSHeadRun.fenceQ 40000 RR.prog).map (fun s => FL.obP 6 cks_1 fns_1 bls_1 s.2) = some (FL.valH fns_1 bls_1) := by
  kernel_rfl
theorem run_a (w : World) : (HandSHeadRun.wholeF (fun p => HandSHeadRun.stepQ (HandSHeadRun.denQ HandSHeadRun.tabQ) p w) HandSHeadRun.fenceQ 40000 RR.prog).map (fun s => FL.obP 6 cks fns bls s.2) = some (FL.valH fns bls) := by
  have h0 := run_0 w
  have h1 := run_1 w
  generalize (HandSHeadRun.wholeF (fun p => HandSHeadRun.stepQ (HandSHeadRun.denQ HandSHeadRun.tabQ) p w) HandSHeadRun.fenceQ 40000 RR.prog) = Y at h0 h1 ⊢
  have z1 := FL.part_two (n := 6) (c1 := cks_0) (c2 := cks_1) (f1 := fns_0) (f2 := fns_1) (b1 := bls_0) (b2 := bls_1) h0 h1
  exact z1
set_option maxHeartbeats 0 in
theorem run (w : World) : HandSHeadRun.RunEqI RR (PySem.W.view RR.prog [0, 53]) (FL.hookH 6 cks fns bls) ob 40000 names w :=
  FL.part_3 (run_l w) (run_s w) (run_a w)
end K49
namespace FL
open PySem
open L2 (V Hp HO St Cx Inv VK XK TE TT TA TS TI TG PE PT PA PS PSs PI PG Ends WX RelV Vals Rd upd upd_same upd_ne ne_of_none EP TP AP OpR R2 CallR FnOk Room Binds)
def intsD (f : Int → Int → Int) : D → D → M D
  | .int i, .int j => M.ret (.int (f i j))
  | _, _ => M.fail
def intsIn : List D → Option (List Int)
  | [] => some []
  | .int i :: r => (intsIn r).map (i :: ·)
  | _ => none
def blsIn : List D → Option (List Bool)
  | [] => some []
  | .bl i :: r => (blsIn r).map (i :: ·)
  | _ => none
def seqD : D → Option (List D)
  | .lst ds => some ds
  | .frz ds => some ds
  | _ => none
def sumD (d : D) : M D := match (seqD d).bind intsIn with
  | some ns => M.ret (.int ns.sum)
  | none => M.fail
def allD (d : D) : M D := match (seqD d).bind blsIn with
  | some bs => M.ret (.bl (bs.all id))
  | none => M.fail
def anyD (d : D) : M D := match (seqD d).bind blsIn with
  | some bs => M.ret (.bl (bs.any id))
  | none => M.fail
section
variable {K : PySem.W.Frag} {cm : Nat → Addr}
theorem intsIn_of : ∀ {ds : List D} {ns : List Int} {H : Hp} {N : NS} {ph : Option Addr} {vs : List V}, intsIn ds = some ns → RepL K cm H N ph ds vs → vs = ns.map V.int
  | [], ns, H, N, ph, vs, e, r => by
    cases e
    cases r
    rfl
  | d :: ds, ns, H, N, ph, vs, e, r => by
    obtain ⟨v, vs', rfl, r1, r2⟩ := r.uncons
    cases d with
    | int i =>
      simp only [intsIn] at e
      cases e2 : intsIn ds with
      | none => rw [e2] at e; cases e
      | some ms =>
        rw [e2] at e
        cases e
        rw [int_of r1, intsIn_of e2 r2]
        rfl
    | _ => cases e
theorem seqD_of {d : D} {ds : List D} {H : Hp} {N : NS} {ph : Option Addr} {v : V} (e : seqD d = some ds) (r : Rep K cm H N ph d v) : ∃ a vs, v = .ref a ∧ L2.SqL K H a vs ∧ RepL K cm H N ph ds vs := by
  cases d with
  | lst xs =>
    cases e
    obtain ⟨a, vs, rfl, ⟨_, t⟩, rl⟩ := lst_of r
    exact ⟨a, vs, rfl, .inl (.inl t), rl⟩
  | frz xs =>
    cases e
    obtain ⟨a, vs, rfl, l, rl⟩ := frz_of r
    exact ⟨a, vs, rfl, l.imp And.right id, rl⟩
  | _ => cases e
theorem sum_ok : OpL K cm (un1 sumD) (L2.rSum K) := by
  intro xa O Wx ρ σ ph H w Q ds vs r h
  obtain ⟨d, v, rfl, r1, h1⟩ := un1_run r h
  unfold sumD at h1
  cases e : (seqD d).bind intsIn with
  | none => rw [e] at h1; exact h1.no
  | some ns =>
    rw [e] at h1
    obtain ⟨xs, e1, e2⟩ := Option.bind_eq_some_iff.mp e
    obtain ⟨a, us, rfl, l, rl⟩ := seqD_of e1 r1
    exact ⟨a, ns, rfl, by rw [← intsIn_of e2 rl]; exact l, h1.ret (b := .int _) (by simp [Rep])⟩
end
section
variable {X : Cx} {c : Cfg} {q : Sq} {pos : Pos} {e o k : Expr} {fe fo fk : EF}
def ixHD : D → D → M D
  | .hand, i => ixD .hand i
  | _, _ => M.fail
def sHAug (f : Int → Int → Int) (h k e : EF) : SF := fun ρ w => onE (M.bind (h ρ) fun o => M.bind (k ρ) fun i => M.bind (ixHD o i) fun x => M.bind (e ρ) fun y => M.bind (intsD f x y) fun z => M.ret [z, o, i]) ρ w (hsK ρ)
end
def eMeth (m : Str) (T : PTab) (fo : EF) (fs : List EF) : EF := fun ρ => M.bind (fo ρ) fun o => match o with
  | .ins k ns xs => if ns.contains m then M.fail else match findP k T with
    | some F => M.bind (evs fs ρ) fun ds => F (.ins k ns xs :: ds)
    | none => M.fail
  | _ => M.fail
section
open PySem.Spec PyProof.Rows
variable {X : Cx} {c : Cfg} {pos apos : Pos} {o e : Expr} {es : List Expr} {fo : EF} {fs : List EF}
end
theorem bt_sum : bootBuiltins "sum" = some (.builtin "sum") := by decide +kernel
def repN : D → D → M (List D)
  | .lst xs, .int k => if 0 ≤ k ∧ k < 1000 ∧ xs.length * k.toNat ≤ line then M.ret (List.replicate k.toNat xs).flatten else M.fail
  | _, _ => M.fail
def nRep (fa fb : EF) : NF := fun ρ => M.bind (fa ρ) fun x => M.bind (fb ρ) fun k => repN x k
section
variable {X : Cx} {c : Cfg} {pos : Pos} {a b : Expr} {fa fb : EF}
end
end FL
namespace FL
open PySem
open L2 (V Hp HO St Cx Inv VK XK Ends RelV Vals CallR FnOk Room Binds)
end FL
namespace FL
open PySem
open L2 (It V Hp HO Cx Inv VK XK TE TT TA TS TI TG PE PT PA PS PSs PI PG Ends WX RelV Vals Rd upd upd_same upd_ne ne_of_none EP TP AP OpR R2 CallR FnOk Room Binds)
def kSq : Bool → PySem.W.Frag → Hp → Addr → List V → Prop
  | false => fun K H a xs => L2.SqL K H a xs
  | true => fun K H a xs => L2.SqT K H a xs
section
open PyProof PyProof.Rows L2
end
section
variable {K : PySem.W.Frag} {cm : Nat → Addr}
def kN : Bool → PySem.W.Frag → Hp → NS → Addr → List V → Prop
  | false => fun K H N a vs => LN K H N a vs
  | true => fun K H N a vs => TN K H N a vs
theorem kN.keep {k : Bool} {H H' : Hp} {N N' : NS} {a : Addr} {vs : List V} (h : kN k K H N a vs) (kp : Keep H N H' N') : kN k K H' N' a vs := by
  cases k
  · exact LN.keep kp h
  · exact TN.keep kp h
theorem kN.seq {k : Bool} {H : Hp} {N : NS} {a : Addr} {vs : List V} (h : kN k K H N a vs) : kSq k K H a vs := by
  cases k
  · exact LN.seq h
  · exact TN.seq h
def zipOf : List D → M (List D)
  | [x, y] => M.bind (seqOf x) fun xs => M.bind (seqOf y) fun ys => M.ret (zipL xs ys)
  | _ => M.fail
def iZipL (fs : List EF) : IF := fun ρ => M.bind (evs fs ρ) zipOf
variable {X : Cx} {c : Cfg}
end
end FL
namespace FL
open PySem
open L2 (It V Hp HO Cx Inv VK XK TE TT TA TS TI TG PE PT PA PS PSs PI PG Ends WX RelV Vals Rd upd upd_same upd_ne ne_of_none EP TP AP OpR R2 CallR FnOk Room Binds)
section
open PyProof PyProof.Rows
variable {prog : Program} {w : World} {A : Around} {E : Value → Shared → Prop} {s : Shared}
end
section
open PyProof PyProof.Rows L2
end
section
variable {K : PySem.W.Frag} {cm : Nat → Addr}
def iRevF (f : EF) : IF := fun ρ => M.bind (f ρ) fun x => M.bind (seqOf x) fun xs => M.ret xs.reverse
variable {X : Cx} {c : Cfg}
end
end FL
namespace FL
open PySem
open L2 (It V Hp HO Cx Inv VK XK TE TT TA TS TI TG PE PT PA PS PSs PI PG Ends WX RelV Vals Rd upd upd_same upd_ne ne_of_none EP TP AP OpR R2 CallR FnOk Room Binds)
def slotPlain : Slot → Bool
  | .own _ => false
  | .nest _ => false
  | _ => true
def addS (O : NS) (p : Addr) (as : List Addr) : NS := fun a => O a ∨ a = p ∨ a ∈ as
structure NewT (H H' : Hp) (p : Addr) (as : List Addr) : Prop where
  ext : ∀ b o, H b = some o → H' b = some o
  pn : H p = none
  hp : H' p = some (.lst (as.map .ref))
  nd : as.Nodup
  np : p ∉ as
  el : ∀ a ∈ as, H a = none ∧ H' a = some (.lst [])
section
variable (K : PySem.W.Frag) (cm : Nat → Addr) (xa : Option (Addr × Nat × Addr))
structure PtS (q : Sq) (H0 : Hp) (N0 : NS) (h0 : Option Addr) (f ig : Nat) (p : Addr) (as : List Addr) (xss : List (List D)) (ρ : Env) (ph : Option Addr) (w : Wd) (σ : St) (H : Hp) : Prop where
  env : EnvE K cm xa (addS q.O0 p as) H ph ρ σ
  hand : HandOk K cm H (addS q.O0 p as) ph w
  base : Ext q.ph0 q.B H
  phs : PhS q.B q.ph0 ph
  o0 : OTr q.B q.O0 q.ph0
  no : ρ.all slotPlain = true
  kp : Kp H0 N0 h0 H (OO (addS q.O0 p as) ph) ph
  nd : as.Nodup
  np : p ∉ as
  bp : ∀ a, a = p ∨ a ∈ as → q.B a = none
  hp : H p = some (.lst (as.map .ref))
  len : as.length = xss.length
  cont : ∀ (m : Nat) a xs, as[m]? = some a → xss[m]? = some xs → ∃ vs, H a = some (.lst vs) ∧ RepL K cm H (OO (addS q.O0 p as) ph) ph xs vs
  sf : σ[f]? = some (some (.ref p))
  rf : ρ[f]? = some .none
  rg : ρ[ig]? = some .none
end
section
variable {K : PySem.W.Frag} {cm : Nat → Addr} {xa : Option (Addr × Nat × Addr)} {q : Sq} {H0 : Hp} {N0 : NS} {h0 : Option Addr} {f ig : Nat} {p : Addr} {as : List Addr} {xss : List (List D)} {ρ : Env} {ph ph' : Option Addr} {w w' : Wd} {σ : St} {H H' : Hp}
theorem plain_own (no : ρ.all slotPlain = true) {i : Nat} {xs : List D} : ρ[i]? ≠ some (.own xs) := fun e => by
  have := (List.all_eq_true.mp no) _ (List.mem_of_getElem? e)
  cases this
theorem plain_nest (no : ρ.all slotPlain = true) {i : Nat} {xs : List D} : ρ[i]? ≠ some (.nest xs) := fun e => by
  have := (List.all_eq_true.mp no) _ (List.mem_of_getElem? e)
  cases this
theorem plain_set (no : ρ.all slotPlain = true) {i : Nat} {d : D} : (ρ.set i (.val d)).all slotPlain = true := by
  rw [List.all_eq_true] at no ⊢
  intro s hs
  rcases List.mem_or_eq_of_mem_set hs with h | h
  · exact no s h
  · subst h; rfl
theorem plain_ownS (no : ρ.all slotPlain = true) {O : NS} {a : Addr} : OwnS O ρ σ a ↔ O a :=
  ⟨fun h => h.elim id fun ⟨_, _, e, _⟩ => (plain_own no e).elim, .inl⟩
theorem PtS.ext (x : Ext ph H H') (s : PhS H ph ph') (hk : HandOk K cm H' (addS q.O0 p as) ph' w') (h : PtS K cm xa q H0 N0 h0 f ig p as xss ρ ph w σ H) : PtS K cm xa q H0 N0 h0 f ig p as xss ρ ph' w' σ H' := by
  have nph : ∀ a, a = p ∨ a ∈ as → ph ≠ some a := fun a ha => (h.env.tr a (.inr ha)).1
  refine ⟨h.env.ext x s, hk, h.base.trans h.phs x, PhS.trans h.base h.phs s, h.o0, h.no, h.kp.trans ⟨Ext.keep x s, s.m⟩, h.nd, h.np, h.bp, x p _ (nph p (.inl rfl)) h.hp, h.len, fun m a xs e1 e2 => ?_, h.sf, h.rf, h.rg⟩
  obtain ⟨vs, e3, r⟩ := h.cont m a xs e1 e2
  exact ⟨vs, x a _ (nph a (.inr (List.mem_of_getElem? e1))) e3, r.keep (Ext.keep x s) s.m _ _⟩
theorem PtS.setd {i : Nat} {d : D} {v : V} (hf : i ≠ f) (hg : i ≠ ig) (r : Rep K cm H (OO (addS q.O0 p as) ph) ph d v) (h : PtS K cm xa q H0 N0 h0 f ig p as xss ρ ph w σ H) : PtS K cm xa q H0 N0 h0 f ig p as xss (ρ.set i (.val d)) ph w (σ.set i (some v)) H :=
  ⟨h.env.setd r, h.hand, h.base, h.phs, h.o0, plain_set h.no, h.kp, h.nd, h.np, h.bp, h.hp, h.len, h.cont, by rw [List.getElem?_set_ne hf]; exact h.sf, by rw [List.getElem?_set_ne hf]; exact h.rf, by rw [List.getElem?_set_ne hg]; exact h.rg⟩
theorem PtS.app {m : Nat} {a : Addr} {xs : List D} {vs : List V} {d : D} {v : V} (e1 : as[m]? = some a) (e2 : xss[m]? = some xs) (e3 : H a = some (.lst vs)) (rl : RepL K cm H (OO (addS q.O0 p as) ph) ph xs vs) (r : Rep K cm H (OO (addS q.O0 p as) ph) ph d v)
    (h : PtS K cm xa q H0 N0 h0 f ig p as xss ρ ph w σ H) : PtS K cm xa q H0 N0 h0 f ig p as (xss.set m (xs ++ [d])) ρ ph w σ (upd H a (.lst (vs ++ [v]))) := by
  have ha : a ∈ as := List.mem_of_getElem? e1
  have na : OO (addS q.O0 p as) ph a := .inl (.inr (.inr ha))
  have kk : Keep H (OO (addS q.O0 p as) ph) (upd H a (.lst (vs ++ [v]))) (OO (addS q.O0 p as) ph) :=
    ⟨fun b o n e => by rw [upd_ne (fun (z : b = a) => n (by rw [z]; exact na))]; exact e, fun b o _ z => z⟩
  have nph : ph ≠ some a := (h.env.tr a (.inr (.inr ha))).1
  have npa : p ≠ a := fun z => h.np (z ▸ ha)
  refine ⟨⟨h.env.len, fun i s x e1 e2 => (h.env.at_ i s x e1 e2).keep kk (fun _ e => e) fun ds p' hs _ _ => (plain_own h.no (hs ▸ e1)).elim, fun b o => ?_⟩, h.hand.keep kk fun p' e u z => by rw [upd_ne (fun y => nph (by rw [← y]; exact e))]; exact z, fun b o n e => ?_, h.phs, h.o0, h.no, h.kp.trans kk.kp, h.nd, h.np, h.bp, by rw [upd_ne npa]; exact h.hp, by rw [List.length_set]; exact h.len, fun m' a' xs' f1 f2 => ?_, h.sf, h.rf, h.rg⟩
  · obtain ⟨y, us, z, k⟩ := h.env.tr b o
    refine ⟨y, ?_⟩
    by_cases hb : b = a
    · subst hb; exact ⟨_, upd_same, .lst _⟩
    · exact ⟨us, by rw [upd_ne hb]; exact z, k⟩
  · rw [upd_ne (fun z => by rw [z, h.bp a (.inr ha)] at e; cases e)]; exact h.base b o n e
  · by_cases hm : m = m'
    · subst hm
      rw [e1] at f1; cases f1
      have hl : m < xss.length := (List.getElem?_eq_some_iff.mp e2).1
      rw [List.getElem?_set_self hl] at f2; cases f2
      exact ⟨_, upd_same, (rl.append (RepL.one r)).keep kk (fun _ e => e) _ _⟩
    · rw [List.getElem?_set_ne hm] at f2
      obtain ⟨us, g1, g2⟩ := h.cont m' a' xs' f1 f2
      have haa : a' ≠ a := fun z => by
        subst z
        have l1 : m < as.length := (List.getElem?_eq_some_iff.mp e1).1
        exact hm ((List.getElem?_inj l1 h.nd).mp (e1.trans f1.symm))
      exact ⟨us, by rw [upd_ne haa]; exact g1, g2.keep kk (fun _ e => e) _ _⟩
theorem repl_of {N : NS} : ∀ {ds : List D} {vs : List V}, ds.length = vs.length → (∀ (i : Nat) d v, ds[i]? = some d → vs[i]? = some v → Rep K cm H N ph d v) → RepL K cm H N ph ds vs
  | [], [], _, _ => RepL.nil
  | d :: ds, v :: vs, l, h => RepL.cons (h 0 d v rfl rfl) (repl_of (by simpa using l) fun i e u a b => h (i + 1) e u (by simpa using a) (by simpa using b))
  | [], _ :: _, l, _ => by simp at l
  | _ :: _, [], l, _ => by simp at l
theorem PtS.fin (h : PtS K cm xa q H0 N0 h0 f ig p as xss ρ ph w σ H) :
    StS K cm xa q (ρ.set f (.val (.lst (xss.map .lst)))) ph w σ H ∧ Kp H0 N0 h0 H (NN q (ρ.set f (.val (.lst (xss.map .lst)))) σ ph) ph := by
  have no' : (ρ.set f (.val (.lst (xss.map .lst)))).all slotPlain = true := plain_set h.no
  have lo : ∀ a, OwnS q.O0 (ρ.set f (.val (.lst (xss.map .lst)))) σ a → addS q.O0 p as a := fun a z => .inl ((plain_ownS no').mp z)
  have kk : Keep H (OO (addS q.O0 p as) ph) H (NN q (ρ.set f (.val (.lst (xss.map .lst)))) σ ph) := Keep.less (OO.mono lo)
  have nb : ∀ a, a = p ∨ a ∈ as → ¬ NN q (ρ.set f (.val (.lst (xss.map .lst)))) σ ph a := fun a ha z => by
    rcases z with z | z
    · obtain ⟨_, us, e, _⟩ := h.o0 a ((plain_ownS no').mp z)
      rw [h.bp a ha] at e; cases e
    · exact (h.env.tr a (.inr ha)).1 z
  refine ⟨⟨⟨by rw [List.length_set]; exact h.env.len, fun j s x e1 e2 => ?_, fun a o => h.env.tr a (lo a o)⟩, h.hand.less lo, h.base, h.phs, h.o0, fun i j p' xs ys e1 => (plain_own no' e1).elim, fun i p' xs e1 => (plain_own no' e1).elim, fun i ds v e1 => (plain_nest no' e1).elim⟩, h.kp.trans kk.kp⟩
  rcases get_set_or e1 with ⟨e, e3⟩ | ⟨e, e3⟩
  · subst e
    subst e3
    rw [h.sf] at e2; cases e2
    refine ⟨.ref p, rfl, ?_⟩
    simp only [Rep]
    refine ⟨p, as.map .ref, rfl, ⟨nb p (.inl rfl), h.hp⟩, repl_of (by simp [h.len]) fun i d v g1 g2 => ?_⟩
    rw [List.getElem?_map] at g1 g2
    cases g3 : xss[i]? with
    | none => rw [g3] at g1; cases g1
    | some xs =>
      cases g4 : as[i]? with
      | none => rw [g4] at g2; cases g2
      | some a =>
        rw [g3] at g1; rw [g4] at g2
        cases g1; cases g2
        obtain ⟨vs, g5, g6⟩ := h.cont i a xs g4 g3
        simp only [Rep]
        exact ⟨a, vs, rfl, ⟨nb a (.inr (List.mem_of_getElem? g4)), g5⟩, g6.keep kk (fun _ e => e) _ _⟩
  · exact (h.env.at_ j s x e3 e2).keep kk (fun _ e => e) fun ds p' hs _ _ => (plain_own h.no (hs ▸ e3)).elim
theorem PtS.start {as : List Addr} {n : Nat} (hf : ρ[f]? = some .none) (hg : ρ[ig]? = some .none) (no : ρ.all slotPlain = true) (h : StS K cm xa q ρ ph w σ H) (N : NewT H H' p as) (l : as.length = n) :
    PtS K cm xa q H (NN q ρ σ ph) ph f ig p as (List.replicate n []) ρ ph w (σ.set f (some (.ref p))) H' := by
  have own : ∀ a, OwnS q.O0 ρ σ a ↔ q.O0 a := fun a => plain_ownS no
  have nw : ∀ a, a = p ∨ a ∈ as → H a = none := fun a ha => ha.elim (fun z => z ▸ N.pn) fun z => (N.el a z).1
  have kk : Keep H (NN q ρ σ ph) H' (OO (addS q.O0 p as) ph) := by
    refine ⟨fun b o _ e => N.ext b o e, fun b o e z => ?_⟩
    rcases z with (z | z) | z
    · exact .inl ((own b).mpr z)
    · rw [nw b z] at e; cases e
    · exact .inr z
  refine ⟨⟨by rw [List.length_set]; exact h.env.len, fun j s x e1 e2 => ?_, fun a o => ?_⟩, h.hand.keep kk fun p' _ o e => N.ext p' o e, fun b o n e => N.ext b o (h.base b o n e), h.phs, h.o0, no, kk.kp, N.nd, N.np, fun a ha => h.old (nw a ha), N.hp, by rw [List.length_replicate]; exact l, fun m a xs e1 e2 => ?_, ?_, hf, hg⟩
  · by_cases z : f = j
    · subst z
      rw [hf] at e1; cases e1
      trivial
    · rw [List.getElem?_set_ne z] at e2
      exact (h.env.at_ j s x e1 e2).keep kk (fun _ e => e) fun ds p' hs _ _ => (plain_own no (hs ▸ e1)).elim
  · rcases o with o | o
    · obtain ⟨y, u, z, k⟩ := h.env.tr a ((own a).mpr o)
      exact ⟨y, u, N.ext a u z, k⟩
    · refine ⟨fun z => ?_, ?_⟩
      · obtain ⟨vs, e⟩ := h.hand.tr z
        rw [nw a o] at e; cases e
      · rcases o with o | o
        · subst o; exact ⟨_, N.hp, .lst _⟩
        · exact ⟨_, (N.el a o).2, .lst _⟩
  · have : xs = [] := by
      rw [List.getElem?_replicate] at e2
      split at e2
      · cases e2; rfl
      · cases e2
    subst this
    exact ⟨[], (N.el a (List.mem_of_getElem? e1)).2, RepL.nil⟩
  · have : f < σ.length := by rw [h.env.len]; exact (List.getElem?_eq_some_iff.mp hf).1
    rw [List.getElem?_set_self this]
end
section
variable {X : Cx} {c : Cfg} {q : Sq}
end
end FL
namespace FL
open PySem
open L2 (It V Hp HO Cx Inv VK XK TE TT TA TS TI TG PE PT PA PS PSs PI PG Ends WX RelV Vals Rd upd upd_same upd_ne ne_of_none EP TP AP OpR R2 CallR FnOk Room Binds)
section
variable (K : PySem.W.Frag) (cm : Nat → Addr) (xa : Option (Addr × Nat × Addr)) (q : Sq)
def PostL (Wx : WX) (D : Ends) (H : Hp) (N : NS) (ph : Option Addr) : SR → Prop
  | .rt (.lst xs) w' => ∀ vs H' ph' p, Ext q.ph0 q.B H' → PhS q.B q.ph0 ph' → HandOk K cm H' q.O0 ph' w' → RepL K cm H' (OO q.O0 ph') ph' xs vs → H' p = none → D.rt (.ref p) (upd H' p (.lst vs))
  | .ex c ns xs ρ' w' => ∀ σ' H' ph' dd vs, StS K cm xa q ρ' ph' w' σ' H' → Kp H N ph H' (NN q ρ' σ' ph') ph' → H' dd = some (.xd (ns.zip vs).reverse) → ns.length = vs.length → RepL K cm H' (NN q ρ' σ' ph') ph' xs vs → Wx (.ref (cm c)) (some dd) σ' H'
  | _ => False
def tL (Wx : WX) (s : SF) : TS := fun D σ H => ∃ ρ ph w, StS K cm xa q ρ ph w σ H ∧ PostL K cm xa q Wx D H (NN q ρ σ ph) ph (s ρ w)
end
abbrev PSLX (X : Cx) (c : Cfg) (q : Sq) (st : List Stmt) (s : SF) : Prop := PSs X st (tL X.K c.cm c.xa q c.Wx s)
def sSeqL (s t : SF) : SF := fun ρ w => match s ρ w with
  | .nx ρ' w' => t ρ' w'
  | .ex c ns xs ρ' w' => .ex c ns xs ρ' w'
  | _ => .bad
theorem PostL.keep {K : PySem.W.Frag} {cm : Nat → Addr} {xa : Option (Addr × Nat × Addr)} {q : Sq} {Wx : WX} {D : Ends} {H H1 : Hp} {N N1 : NS} {ph ph1 : Option Addr} {r : SR} (k : Kp H N ph H1 N1 ph1) (h : PostL K cm xa q Wx D H N ph r) : PostL K cm xa q Wx D H1 N1 ph1 r := by
  cases r with
  | rt d w' => cases d <;> exact h
  | ex c ns xs ρ' w' => exact fun σ' H' ph' dd vs s k2 => h σ' H' ph' dd vs s (k.trans k2)
  | _ => exact h
section
variable {X : Cx} {c : Cfg} {q : Sq} {pos : Pos} {st : Stmt} {sts : List Stmt} {s t : SF}
theorem psl_cons (h1 : PSX X c q st s) (h2 : PSLX X c q sts t) : PSLX X c q (st :: sts) (sSeqL s t) := PSs.to (L2.pss_cons h1 h2) fun D σ H ⟨ρ, ph, w, h, hp⟩ => by
  refine ⟨ρ, ph, w, h, ?_⟩
  unfold sSeqL at hp
  cases er : s ρ w with
  | nx ρ' w' =>
    rw [er] at hp
    exact fun σ' H' ph' h2 k => ⟨ρ', ph', w', h2, hp.keep k⟩
  | rt d w' => rw [er] at hp; exact (show False from hp).elim
  | bk ρ' w' => rw [er] at hp; exact (show False from hp).elim
  | ct ρ' w' => rw [er] at hp; exact (show False from hp).elim
  | ex c ns xs ρ' w' => rw [er] at hp; exact hp
  | bad => rw [er] at hp; exact (show False from hp).elim
theorem psl_ret (i : Nat) {x : Str} {p0 : Pos} (hN : X.N[i]? = some x := by rfl) (hv : L2.Vis X.env.scope x := by first | exact Or.inl rfl | exact Or.inr (Or.inl rfl) | exact Or.inr (Or.inr rfl)) (hd : (x == ("__debug__" : Str)) = false := by decide)
    (hcd : (x == ("__classdict__" : Str)) = false := by decide) : PSLX X c q [.Return (some (.Name x p0)) pos] (sRetOwn i) :=
  PSs.to (L2.pss_one (L2.ps_ret (L2.pe_var hN hv hd hcd))) fun D σ H ⟨ρ, ph, w, h, hp⟩ => by
    unfold sRetOwn at hp
    cases e : ρ[i]? with
    | none => rw [e] at hp; exact (show False from hp).elim
    | some sl =>
      rw [e] at hp
      cases sl with
      | own xs =>
        obtain ⟨p, vs, e1, o, hv', r⟩ := h.env.ownd e
        have kk : Keep H (OO (OwnS q.O0 ρ σ) ph) (delD H p) (OO q.O0 ph) := ⟨fun b o' n e => by rw [delD_ne (fun z => n (.inl (by rw [z]; exact o)))]; exact e, fun b o' _ x => x.elim (fun y => .inl (.inl y)) .inr⟩
        have nph : ph ≠ some p := (h.env.tr p o).1
        have z := hp vs (delD H p) ph p (fun b o' n e' => by
          rw [delD_ne (fun z => by rw [z, h.fresh i p xs e e1] at e'; cases e')]
          exact h.base b o' n e') h.phs (h.hand.keep kk fun p' e u z => by rw [delD_ne (fun y => nph (by rw [← y]; exact e))]; exact z) (r.keep kk (fun _ e => e) xs vs) delD_same
        rw [upd_del hv'] at z
        exact ⟨.ref p, e1, z⟩
      | _ => exact (show False from hp).elim
end
def spL (K : PySem.W.Frag) (cm : Nat → Addr) (n : Nat) (F : List D → M (List D)) : L2.Sp := fun vs H Q E => vs.length = n ∧ ∃ O ds ph w, OTr H O ph ∧ HandOk K cm H O ph w ∧ RepL K cm H (OO O ph) ph ds vs ∧
  Post1 K cm O (relL K cm O) (fun cls d _ H' => E cls d H') [] ph H (fun vs H' => ∀ p, H' p = none → Q (.ref p) (upd H' p (.lst vs))) (F ds w)
def callL (n : Nat) (b : SF) (ds : List D) : M (List D) := fun w => match b (vals ds ++ List.replicate (n - ds.length) .none) w with
  | .rt (.lst xs) w' => .ok xs w'
  | .ex c ns xs _ w' => .ex c ns xs w'
  | _ => .bad
section
variable {P : Program} {w : World} {K : PySem.W.Frag} {mg : Str → Option Value} {base : Heap} {cm : Nat → Addr}
theorem fnl_ok {x qual : Str} {params : Arguments} {body : List Stmt} {scope : Scope} {dvs : List V} {kws : List (Str × V)} {f : Addr} {fd : FuncData} {N ps : List Str} {k : Nat} {b : SF} (F : L2.FunD K x qual params body scope dvs kws f fd) (S : L2.FnScope N ps scope)
    (hn : ps.length ≤ N.length)
    (hb : ∀ (cdv : Value) (A : Around) (outer : List PySem.Env) (s : Shared) (H : Hp) (E : XK) (q : Sq), Room k (A.deeper (PyProof.Rows.envOfC qual scope s.heap.objs.size f cdv)) →
      PSLX (L2.cxOf (L2N.CX P w) P w K mg base N qual scope f cdv A outer s H E) ⟨cm, none, fun cls d _ H' => E cls d H'⟩ q body b) :
    FnOk P w K mg base (L2N.CX P w) (k + 1) f fd ps (spL K cm ps.length (callL N.length b)) := by
  refine F.ok S (fun vs H Q E h => h.1) fun cdv A outer s H vs Q E hr h => ?_
  obtain ⟨hl, O, ds, ph, wd, tr, hand, r, post⟩ := h
  refine ⟨_, hb cdv A outer s H E ⟨H, O, ph⟩ hr, vals ds ++ List.replicate (N.length - ds.length) Slot.none, ph, wd, start_sts (by rw [r.length, hl]; exact hn) tr hand r, ?_⟩
  unfold callL at post
  cases e : b (vals ds ++ List.replicate (N.length - ds.length) Slot.none) wd with
  | nx ρ' w' => rw [e] at post; exact (show False from post).elim
  | rt d w' =>
    rw [e] at post
    cases d with
    | lst xs => exact fun vs H' ph' p x1 s1 hk rv hpn => post vs H' ph' x1 s1 hk rv p hpn
    | _ => exact (show False from post).elim
  | ex c ns xs ρ' w' =>
    rw [e] at post
    intro σ' H' ph' dd vs s1 k1 hd l rv
    exact post dd H' ph' vs s1.base s1.phs (s1.hand.less fun _ z => .inl z) hd l (rv.keep (Keep.less (OO.mono fun _ z => .inl z)) (fun _ e => e) xs vs)
  | bk ρ' w' => rw [e] at post; exact (show False from post).elim
  | ct ρ' w' => rw [e] at post; exact (show False from post).elim
  | bad => rw [e] at post; exact (show False from post).elim
structure HasL (P : Program) (w : World) (K : PySem.W.Frag) (mg : Str → Option Value) (base : Heap) (cm : Nat → Addr) (x : Str) (lvl : Nat) (ps : List Str) (n : Nat) (F : List D → M (List D)) : Prop where
  ex : ∃ f fd, mg x = some (.ref f) ∧ PySem.W.keepIn K (.ref f) = true ∧ FnOk P w K mg base (L2N.CX P w) lvl f fd ps (spL K cm n F) ∧ Binds K fd ps []
theorem hasL_of {x : Str} {st : Stmt} {N ps : List Str} {k m n : Nat} {b : SF} (hd : ∃ f fd, DefAt K mg x st [] f fd) (S : L2.FnScope N ps (L2.defScope st)) (hps : ps.length = m) (hN : N.length = n) (hmn : m ≤ n)
    (hb : ∀ (kV doc pm : Value) (an : Option Addr) (cdv ct : Value) (us : List Value), us.length = ps.length → bindArgs (PySem.W.fnOf x x (L2.defArgs st) (L2.defBody st) (L2.defScope st) .none kV doc pm an cdv ct) ⟨us, []⟩ = pure (ps.zip us))
    (body : ∀ (f : Addr) (cdv : Value) (A : Around) (outer : List PySem.Env) (s : Shared) (H : Hp) (E : XK) (q : Sq), Room k (A.deeper (PyProof.Rows.envOfC x (L2.defScope st) s.heap.objs.size f cdv)) →
      PSLX (L2.cxOf (L2N.CX P w) P w K mg base N x (L2.defScope st) f cdv A outer s H E) ⟨cm, none, fun cls d _ H' => E cls d H'⟩ q (L2.defBody st) b) :
    HasL P w K mg base cm x (k + 1) ps m (callL n b) := by
  obtain ⟨f, fd, hm, F⟩ := hd
  subst hps hN
  exact ⟨f, fd, hm, F.kp, fnl_ok F S hmn fun cdv A outer s H E q hr => body f cdv A outer s H E q hr, F.bindsN hb⟩
theorem HasL.up {x : Str} {lvl l2 : Nat} {ps : List Str} {n : Nat} {F : List D → M (List D)} (h : HasL P w K mg base cm x lvl ps n F) (le : lvl ≤ l2) : HasL P w K mg base cm x l2 ps n F := by
  obtain ⟨f, fd, a, b, c, d⟩ := h.ex
  exact ⟨f, fd, a, b, c.mono le, d⟩
end
def nCall (F : List D → M (List D)) (fs : List EF) : NF := fun ρ => M.bind (evs fs ρ) F
section
variable {X : Cx} {c : Cfg} {pos : Pos} {e : Expr} {es : List Expr} {fs : List EF}
theorem postL_ws {K : PySem.W.Frag} {cm : Nat → Addr} {O Wx σ ph H} {Q : List V → Hp → Prop} {r : R (List D)} (h : Post1 K cm O (relL K cm O) Wx σ ph H Q r) : Post1 K cm O (relL K cm O) (fun cls d _ H' => Wx cls d σ H') [] ph H Q r := by
  cases r <;> exact h
theorem run_fnL {k : Nat} {f : Addr} {fd : FuncData} {ps : List Str} {n : Nat} {F : List D → M (List D)} {pins : List (Addr × Obj)} {σ : St} {H : Hp} {s : Shared} {Q : VK} {us : List Value} {vs : List V}
    (G : FnOk X.prog X.w X.K X.mg X.base (L2N.CX X.prog X.w) k f fd ps (spL X.K c.cm n F)) (hr : Room k X.A) (hb : Binds X.K fd ps []) {Wx : WX} (hx : L2N.Takes X Wx)
    (I : Inv X pins σ H s) (r : Vals vs us) (h : spL X.K c.cm n F vs H Q (fun cls d H' => Wx cls d σ H')) : wpAny (model X.prog X.w) X.A (call (.ref f) us) (EP X pins σ Q) X.xe s := by
  have hl : (us ++ []).length = ps.length := by rw [List.append_nil, ← r.length]; exact G.len _ _ _ _ h
  have r2 : Vals vs (us ++ []) := by rw [List.append_nil]; exact r
  refine wpAny_call (codeAny_mono (G.run X.A X.stack s H ⟨us, []⟩ (us ++ []) vs Q _ hr I.env0 (hb s us I.kIn hl) r2 h) fun res s' hq => ?_)
  match res, hq with
  | .error e, hq => exact L2N.passAt hx σ pins H s e s' I hq
  | .ok (.ret u), hq => exact I.after hq
  | .ok .next, hq => exact False.elim hq
  | .ok .brk, hq => exact False.elim hq
  | .ok .cont, hq => exact False.elim hq
theorem evs_runL {K : PySem.W.Frag} {cm : Nat → Addr} {xa : Option (Addr × Nat × Addr)} {O : NS} {Wx : WX} {ρ : Env} {σ : St} {ph : Option Addr} {H : Hp} {w : Wd} {k : List D → M (List D)} {Q : List V → Hp → Prop} (h : Run K cm xa O (relL K cm O) Wx ρ σ ph H w (M.bind (evs fs ρ) k) Q) :
    Run K cm xa O (relL K cm O) Wx ρ σ ph H w (evs fs ρ) (fun vs H1 => ∃ ds ph1 w1, vs.length = fs.length ∧ RepL K cm H1 (OO O ph1) ph1 ds vs ∧ Run K cm xa O (relL K cm O) Wx ρ σ ph1 H1 w1 (k ds) Q) := by
  have hb := h.bind (rel := relL K cm O)
  refine ⟨hb.env, hb.hand, ?_⟩
  have hp := hb.post
  cases e : evs fs ρ w with
  | ok ds w1 =>
    rw [e] at hp
    intro xs H1 ph1 x1 s1 k1 r1
    have hp2 := h.post
    unfold M.bind at hp2
    rw [e] at hp2
    exact ⟨ds, ph1, w1, r1.length.symm.trans (evs_len _ _ _ _ e), r1, h.env.ext x1 s1, k1, hp2.ext x1 s1⟩
  | ex c ns xs w1 => rw [e] at hp; exact hp
  | bad => rw [e] at hp; exact hp
theorem pnx_call {x : Str} {p : Pos} {k : Nat} {ps : List Str} {n : Nat} {F : List D → M (List D)} (G : HasL X.prog X.w X.K X.mg X.base c.cm x k ps n F) (hr : Room k X.A) (hx : L2N.Takes X c.Wx) (hg : L2.Gl X x) (ha : PAX X c (e :: es) fs)
    (hn : fs.length = n := by rfl) (hdb : (x == ("__debug__" : Str)) = false := by decide) (he : starEach (e :: es) X.env = (false, eval e X.env) :: starEach es X.env := by rfl) (hpl : (backTo pos (starEach es X.env)).any (·.1) = false := by rfl) :
    PNX X c (.Call (.Name x p) (e :: es) [] pos) (nCall F fs) := by
  obtain ⟨f, fd, hm, hk, hF, hb⟩ := G.ex
  refine ⟨fun pins s σ H Q I h => ?_⟩
  obtain ⟨O, ρ, ph, w, h⟩ := h
  have h1 := evs_runL h
  refine wpAny_Call_Name_kw (L2.ld_glob I hg hm ?_ hdb)
  refine PySem.W.callWith_K (h₀ := X.base) I.ok.mod.kin hk (L2.thn (ha.run pos pins s σ H _ I ⟨O, ρ, ph, w, h1⟩) fun us s1 ⟨vs, H1, I1, r, ds', ph1, w1, l, rl, h2⟩ => ⟨I1.kIn, ?_⟩) he hpl
  exact run_fnL hF hr hb hx I1 r ⟨by rw [l]; exact hn, O, ds', ph1, w1, h2.env.tr, h2.hand, rl, postL_ws h2.post⟩
end
end FL
namespace FL
open PySem
open L2 (It V Hp HO Cx Inv VK XK TE TT TA TS TI TG PE PT PA PS PSs PI PG Ends WX RelV Vals Rd upd upd_same upd_ne ne_of_none EP TP AP OpR R2 CallR FnOk Room Binds)
def small13 (n : Nat) : Prop := n.log2 < 13000
instance (n : Nat) : Decidable (small13 n) := by unfold small13; exact inferInstance
section
open PySem.Calls PySem.W
theorem lc_room {n : Nat} (h : small13 n) : ¬ n.log2 / 30 + 1 > 450 := by unfold small13 at h; omega
theorem lc_room2 {m n : Nat} (h1 : small13 m) (h2 : small13 n) : ¬ (max m n).log2 / 30 + 1 > 450 := by
  rcases Nat.le_total m n with z | z
  · rw [Nat.max_eq_right z]; exact lc_room h2
  · rw [Nat.max_eq_left z]; exact lc_room h1
theorem one13 : small13 1 := by decide
theorem lc_fits {n : Nat} (h : small13 n) : ((n : Nat) : Int).natAbs.log2 < bitsLine := by
  unfold small13 at h
  rw [Int.natAbs_natCast]
  exact Nat.lt_trans h (by rw [bitsLine_eq]; omega)
theorem ao_lcm2 (a b : Value) : argsOk "math.lcm" ⟨[a, b], []⟩ := by unfold argsOk; kernel_rfl
theorem ao_lcm3 (a b c : Value) : argsOk "math.lcm" ⟨[a, b, c], []⟩ := by unfold argsOk; kernel_rfl
theorem lcm_goes2 (i : Int) (t : Tok) (j : Int) (u : Tok) (c0 : ¬(max 1 i.natAbs).log2 / 30 + 1 > 450) (c1 : ¬(max i.natAbs j.natAbs).log2 / 30 + 1 > 450)
    (hsz : (((((1 : Nat).lcm i.natAbs).lcm j.natAbs : Nat) : Int)).natAbs.log2 < bitsLine) :
    Gives (Builtin.«math.lcm» ⟨[.int i t, .int j u], []⟩) (.int (((((1 : Nat).lcm i.natAbs).lcm j.natAbs : Nat) : Int))) :=
  .of_wp fun M A E s Q h => by obtain ⟨hp, g, d, tk, os⟩ := s; wp_walk; (try (refine wpAny_ite_false (decide_eq_false (Nat.not_le.mpr hsz)) ?_; wp_walk)); exact ⟨_, rfl, h⟩
theorem lcm_goes3 (i : Int) (t : Tok) (j : Int) (u : Tok) (k : Int) (v : Tok) (c0 : ¬(max 1 i.natAbs).log2 / 30 + 1 > 450) (c1 : ¬(max i.natAbs j.natAbs).log2 / 30 + 1 > 450) (c2 : ¬(max (i.natAbs.lcm j.natAbs) k.natAbs).log2 / 30 + 1 > 450)
    (hsz : ((((((1 : Nat).lcm i.natAbs).lcm j.natAbs).lcm k.natAbs : Nat) : Int)).natAbs.log2 < bitsLine) :
    Gives (Builtin.«math.lcm» ⟨[.int i t, .int j u, .int k v], []⟩) (.int ((((((1 : Nat).lcm i.natAbs).lcm j.natAbs).lcm k.natAbs : Nat) : Int))) :=
  .of_wp fun M A E s Q h => by obtain ⟨hp, g, d, tk, os⟩ := s; wp_walk; (try (refine wpAny_ite_false (decide_eq_false (Nat.not_le.mpr hsz)) ?_; wp_walk)); exact ⟨_, rfl, h⟩
end
def lcmD : List D → M D
  | [.int a, .int b] => if small13 a.natAbs ∧ small13 b.natAbs ∧ small13 (a.natAbs.lcm b.natAbs) then M.ret (.int ((a.natAbs.lcm b.natAbs : Nat) : Int)) else M.fail
  | [.int a, .int b, .int c] => if small13 a.natAbs ∧ small13 b.natAbs ∧ small13 c.natAbs ∧ small13 (a.natAbs.lcm b.natAbs) ∧ small13 ((a.natAbs.lcm b.natAbs).lcm c.natAbs) then M.ret (.int (((a.natAbs.lcm b.natAbs).lcm c.natAbs : Nat) : Int)) else M.fail
  | _ => M.fail
def rLcm : List V → Hp → VK → Prop := fun vs H Q =>
  (∃ a b : Int, vs = [.int a, .int b] ∧ (small13 a.natAbs ∧ small13 b.natAbs ∧ small13 (a.natAbs.lcm b.natAbs)) ∧ Q (.int ((a.natAbs.lcm b.natAbs : Nat) : Int)) H) ∨
  (∃ a b c : Int, vs = [.int a, .int b, .int c] ∧ (small13 a.natAbs ∧ small13 b.natAbs ∧ small13 c.natAbs ∧ small13 (a.natAbs.lcm b.natAbs) ∧ small13 ((a.natAbs.lcm b.natAbs).lcm c.natAbs)) ∧ Q (.int (((a.natAbs.lcm b.natAbs).lcm c.natAbs : Nat) : Int)) H)
theorem one_lcm (n : Nat) : (1 : Nat).lcm n = n := by simp [Nat.lcm]
section
open PySem.Calls PySem.W
theorem cr_lcm {X : Cx} : CallR X (.builtin "math.lcm") rLcm := by
  intro pins s σ H vs us Q I r h
  rcases h with ⟨a, b, rfl, ⟨g1, g2, g3⟩, q⟩ | ⟨a, b, c, rfl, ⟨g1, g2, g3, g4, g5⟩, q⟩
  · obtain ⟨t, u, rfl⟩ := Vals.int2 r
    have g := lcm_goes2 a t b u (lc_room2 one13 g1) (lc_room2 g1 g2) (by rw [one_lcm]; exact lc_fits g3)
    rw [one_lcm] at g
    exact call_function_meets PySem.W.MGF.kind_lcm PySem.W.MGF.plain_lcm PySem.W.MGF.entry_lcm (ao_lcm2 _ _) g.meets ⟨.int _, H, I.tok _, ⟨_, rfl⟩, q⟩
  · cases r with
    | cons r1 r =>
      obtain ⟨v, w, rfl⟩ := Vals.int2 r
      obtain ⟨t, rfl⟩ := r1
      have g := lcm_goes3 a t b v c w (lc_room2 one13 g1) (lc_room2 g1 g2) (lc_room2 g4 g3) (by rw [one_lcm]; exact lc_fits g5)
      rw [one_lcm] at g
      exact call_function_meets PySem.W.MGF.kind_lcm PySem.W.MGF.plain_lcm PySem.W.MGF.entry_lcm (ao_lcm3 _ _ _) g.meets ⟨.int _, H, I.tok _, ⟨_, rfl⟩, q⟩
end
section
variable {K : PySem.W.Frag} {cm : Nat → Addr}
theorem lcm_ok : OpL K cm lcmD rLcm := by
  intro xa O Wx ρ σ ph H w Q ds vs r h
  unfold lcmD at h
  split at h
  · rename_i a b
    by_cases hc : small13 a.natAbs ∧ small13 b.natAbs ∧ small13 (a.natAbs.lcm b.natAbs)
    · rw [if_pos hc] at h
      obtain ⟨v, vs, rfl, r1, r⟩ := r.uncons
      obtain ⟨u, vs, rfl, r2, r⟩ := r.uncons
      cases r.unnil
      exact .inl ⟨a, b, by rw [int_of r1, int_of r2], hc, h.ret (b := .int _) (by simp [Rep])⟩
    · rw [if_neg hc] at h; exact h.no
  · rename_i a b c
    by_cases hc : small13 a.natAbs ∧ small13 b.natAbs ∧ small13 c.natAbs ∧ small13 (a.natAbs.lcm b.natAbs) ∧ small13 ((a.natAbs.lcm b.natAbs).lcm c.natAbs)
    · rw [if_pos hc] at h
      obtain ⟨v, vs, rfl, r1, r⟩ := r.uncons
      obtain ⟨u, vs, rfl, r2, r⟩ := r.uncons
      obtain ⟨x, vs, rfl, r3, r⟩ := r.uncons
      cases r.unnil
      exact .inr ⟨a, b, c, by rw [int_of r1, int_of r2, int_of r3], hc, h.ret (b := .int _) (by simp [Rep])⟩
    · rw [if_neg hc] at h; exact h.no
  · exact h.no
end
end FL
namespace FL
open PySem
open L2 (It V Hp HO Cx Inv VK XK TE TT TA TS TI TG PE PT PA PS PSs PI PG Ends WX RelV Vals Rd upd upd_same upd_ne ne_of_none EP TP AP OpR R2 CallR FnOk Room Binds)
def LtP (p q : Int × Int) : Prop := p.1 < q.1 ∨ (p.1 = q.1 ∧ p.2 < q.2)
instance (p q : Int × Int) : Decidable (LtP p q) := by unfold LtP; exact inferInstance
namespace SP
open PyProof PyProof.Rows
section
variable {prog : Program} {w : World} {A : Around} {E : Value → Shared → Prop} {s : Shared}
abbrev Two (h : Heap) (v : Value) (p : Int × Int) : Prop := TS.TupInts h v [p.1, p.2]
theorem ints_two {us : List Value} {a b : Int} (h : IntsAre us [a, b]) : ∃ t u, us = [.int a t, .int b u] := by
  obtain ⟨t, r, rfl, h1⟩ := h.cons_inv
  obtain ⟨u, r', rfl, h2⟩ := h1.cons_inv
  rw [h2.nil_inv]
  exact ⟨t, u, rfl⟩
theorem lex_two {b : Bool} {p q : Int × Int} {t u t' u' : Tok} {Q : Bool → Shared → Prop} (h : Q (decide (LtP p q)) s) :
    PySem.W.KatLex prog w A b false Q [(.int p.1 t, .int q.1 t'), (.int p.2 u, .int q.2 u')] 0 s := by
  refine PySem.W.kat_cons (wpAny_eqBool_int ?_)
  by_cases e1 : p.1 = q.1
  · rw [show (p.1 == q.1) = true from beq_iff_eq.mpr e1]
    refine PySem.W.kat_yes (PySem.W.kat_cons (wpAny_eqBool_int ?_))
    by_cases e2 : p.2 = q.2
    · rw [show (p.2 == q.2) = true from beq_iff_eq.mpr e2]
      rw [show decide (LtP p q) = false from decide_eq_false (fun z => by unfold LtP at z; omega)] at h
      exact PySem.W.kat_yes (PySem.W.kat_nil h)
    · rw [show (p.2 == q.2) = false from beq_eq_false_iff_ne.mpr e2]
      rw [show decide (LtP p q) = decide (p.2 < q.2) from decide_eq_decide.mpr (by unfold LtP; omega)] at h
      exact PySem.W.kat_no (TS.oneLt_ints _ h)
  · rw [show (p.1 == q.1) = false from beq_eq_false_iff_ne.mpr e1]
    rw [show decide (LtP p q) = decide (p.1 < q.1) from decide_eq_decide.mpr (by unfold LtP; omega)] at h
    exact PySem.W.kat_no (TS.oneLt_ints _ h)
theorem firsts {h : Heap} : ∀ vs : List Value, (∀ v ∈ vs, ∃ p, Two h v p) → ∃ fs, PySem.W.KatTups h vs fs ∧ fs.length = vs.length ∧ ∀ f ∈ fs, ∃ n t, f = Value.int n t
  | [], _ => ⟨[], PySem.W.KatTups.nil, rfl, fun f z => by cases z⟩
  | v :: vs, x => by
    obtain ⟨fs, k, l, i⟩ := firsts vs fun u z => x u (List.mem_cons_of_mem _ z)
    obtain ⟨p, a, xs, rfl, ⟨o, g1, g2, n, g3⟩, g4⟩ := x v (List.mem_cons_self ..)
    obtain ⟨t, u, e⟩ := ints_two g4
    refine ⟨.int p.1 t :: fs, PySem.W.KatTups.cons g1 g2 g3 ?_ k, by simp [l], fun f z => ?_⟩
    · rw [← Array.getElem?_toList, e]; rfl
    · rcases List.mem_cons.mp z with rfl | z
      · exact ⟨_, _, rfl⟩
      · exact i f z
theorem kind {vs : List Value} (h2 : 2 ≤ vs.length) (x : ∀ v ∈ vs, ∃ p, Two s.heap v p) (r : Value → Int) (hr : ∀ v ∈ vs, ∀ u ∈ vs, ∀ p q, Two s.heap v p → Two s.heap u q → (r v < r u ↔ LtP p q))
    (Q : SortKind → Shared → Prop) (h : ∀ κ, TS.Cmp prog w A s κ (pairsOf vs) r → Q κ s) : wpAny (model prog w) A (keyKind' vs.toArray) Q E s := by
  obtain ⟨fs, k, hl, hi⟩ := firsts vs x
  refine PySem.W.kat_kind (T := Value.type "int") k (by omega) (fun f z => ?_) rfl (h _ ?_)
  · obtain ⟨n, t, rfl⟩ := hi f z
    exact PySem.W.Looks.of_pure rfl
  · intro y z hy hz Q' E' hQ
    rw [pairsOf_toList] at hy hz
    obtain ⟨e1, m1⟩ := mem_zip_self hy
    obtain ⟨e2, m2⟩ := mem_zip_self hz
    obtain ⟨p, t1⟩ := x _ m1
    obtain ⟨q, t2⟩ := x _ m2
    rw [show decide (r y.1 < r z.1) = decide (LtP p q) from decide_eq_decide.mpr (hr _ m1 _ m2 _ _ t1 t2)] at hQ
    obtain ⟨a, xs, f1, ⟨o, g1, g2, n, g3⟩, g4⟩ := t1
    obtain ⟨a', ys, f2, ⟨o', k1, k2, n', k3⟩, k4⟩ := t2
    rw [f1, f2]
    refine PySem.W.kat_lt g1 g3 k1 k3 ?_
    obtain ⟨_, _, w1⟩ := ints_two g4
    obtain ⟨_, _, w2⟩ := ints_two k4
    have s1 : xs.size = 2 := by rw [← Array.length_toList, w1]; rfl
    have s2 : ys.size = 2 := by rw [← Array.length_toList, w2]; rfl
    rw [w1, w2, s1, s2]
    exact lex_two hQ
theorem Two.keeps {h h' : Heap} {v : Value} {p : Int × Int} (x : Two h v p) (k : ∀ b o, h.get? b = some o → o.cls = .type "tuple" → h'.get? b = some o) : Two h' v p := TS.TupInts.keeps x k
end
section
open L2
variable {P : Program} {w : World} {A : Around} {E : Value → Shared → Prop} {s : Shared}
end
end SP
section
open PyProof PyProof.Rows L2
end
end FL
namespace FL
open PySem
open L2 (It V Hp HO Cx Inv VK XK TE TT TA TS TI TG PE PT PA PS PSs PI PG Ends WX RelV Vals Rd upd upd_same upd_ne ne_of_none EP TP AP OpR R2 CallR FnOk Room Binds)
theorem LtP.trans {p q r : Int × Int} (h : LtP p q) (k : LtP q r) : LtP p r := by unfold LtP at *; omega
section
variable {K : PySem.W.Frag} {cm : Nat → Addr}
end
section
variable {X : Cx} {c : Cfg}
end
end FL
namespace FL
open PySem
open L2 (It V Hp HO Cx Inv VK XK TE TT TA TS TI TG PE PT PA PS PSs PI PG Ends WX RelV Vals Rd upd upd_same upd_ne ne_of_none EP TP AP OpR R2 CallR FnOk Room Binds)
section
open PyProof PyProof.Rows L2
end
section
variable {K : PySem.W.Frag} {cm : Nat → Addr}
end
end FL
namespace FL
open PySem
open L2 (It V Hp HO Cx Inv VK XK TE TT TA TS TI TG PE PT PA PS PSs PI PG Ends WX RelV Vals Rd upd upd_same upd_ne ne_of_none EP TP AP OpR R2 CallR FnOk Room Binds)
end FL
namespace FL
open PySem
open L2 (It V Hp HO Cx Inv VK XK TE TT TA TS TI TG PE PT PA PS PSs PI PG Ends WX RelV Vals Rd upd upd_same upd_ne ne_of_none EP TP AP OpR R2 CallR FnOk Room Binds)
def Ali (it il m : Nat) (ρ : Env) (σ : St) (H : Hp) : Prop :=
  ∃ (ds xs : List D) (p b : Addr) (vs : List V), ρ[it]? = some (.nest ds) ∧ ρ[il]? = some (.val (.lst xs)) ∧ ds[m]? = some (.lst xs) ∧ σ[it]? = some (some (.ref p)) ∧ H p = some (.lst vs) ∧ vs[m]? = some (.ref b) ∧ σ[il]? = some (some (.ref b))
section
variable (K : PySem.W.Frag) (cm : Nat → Addr) (xa : Option (Addr × Nat × Addr)) (q : Sq) (it il m : Nat)
def PostA (Wx : WX) (D : Ends) : SR → Prop
  | .nx ρ' w' => ∀ σ' H' ph', StS K cm xa q ρ' ph' w' σ' H' → Ali it il m ρ' σ' H' → D.nx σ' H'
  | .bk ρ' w' => ∀ σ' H' ph', StS K cm xa q ρ' ph' w' σ' H' → Ali it il m ρ' σ' H' → D.bk σ' H'
  | .ct ρ' w' => ∀ σ' H' ph', StS K cm xa q ρ' ph' w' σ' H' → Ali it il m ρ' σ' H' → D.ct σ' H'
  | .rt d w' => ∀ v H' ph', Ext q.ph0 q.B H' → PhS q.B q.ph0 ph' → HandOk K cm H' q.O0 ph' w' → Rep K cm H' (OO q.O0 ph') ph' d v → D.rt v H'
  | .ex c ns xs ρ' w' => ∀ σ' H' ph' dd vs, StS K cm xa q ρ' ph' w' σ' H' → H' dd = some (.xd (ns.zip vs).reverse) → ns.length = vs.length → RepL K cm H' (NN q ρ' σ' ph') ph' xs vs → Wx (.ref (cm c)) (some dd) σ' H'
  | .bad => False
def tA (Wx : WX) (s : SF) : TS := fun D σ H => ∃ ρ ph w, StS K cm xa q ρ ph w σ H ∧ Ali it il m ρ σ H ∧ PostA K cm xa q it il m Wx D (s ρ w)
end
abbrev PSA (X : Cx) (c : Cfg) (q : Sq) (it il m : Nat) (st : Stmt) (s : SF) : Prop := PS X st (tA X.K c.cm c.xa q it il m c.Wx s)
abbrev PSSA (X : Cx) (c : Cfg) (q : Sq) (it il m : Nat) (st : List Stmt) (s : SF) : Prop := PSs X st (tA X.K c.cm c.xa q it il m c.Wx s)
section
variable {K : PySem.W.Frag} {cm : Nat → Addr} {xa : Option (Addr × Nat × Addr)} {q : Sq} {ρ : Env} {σ : St} {H H1 : Hp} {ph ph1 : Option Addr} {w w1 : Wd} {Wx : WX} {D : Ends} {it il m : Nat}
theorem Ali.ext (a : Ali it il m ρ σ H) (h : StS K cm xa q ρ ph w σ H) (x : Ext ph H H1) : Ali it il m ρ σ H1 := by
  obtain ⟨ds, xs, p, b, vs, e1, e2, e3, e4, e5, e6, e7⟩ := a
  obtain ⟨v, e8, r⟩ := h.env.nestd e1
  rw [e4] at e8; cases e8
  obtain ⟨p', vs', ez, ⟨np, hp⟩, _⟩ := lst_of r
  cases ez
  exact ⟨ds, xs, p, b, vs, e1, e2, e3, e4, x p _ (fun z => np (.inr z)) e5, e6, e7⟩
theorem Ali.set {i : Nat} {s : Slot} {x : Option V} (h1 : i ≠ it) (h2 : i ≠ il) (a : Ali it il m ρ σ H) : Ali it il m (ρ.set i s) (σ.set i x) H := by
  obtain ⟨ds, xs, p, b, vs, e1, e2, e3, e4, e5, e6, e7⟩ := a
  exact ⟨ds, xs, p, b, vs, by rw [List.getElem?_set_ne h1]; exact e1, by rw [List.getElem?_set_ne h2]; exact e2, e3, by rw [List.getElem?_set_ne h1]; exact e4, e5, e6, by rw [List.getElem?_set_ne h2]; exact e7⟩
theorem Ali.puts : ∀ (ts : List Put) {ρ : Env} {σ : St}, (∀ t ∈ ts, t.1 ≠ it ∧ t.1 ≠ il) → Ali it il m ρ σ H → Ali it il m (putE ts ρ) (putS ts σ) H
  | [], _, _, _, a => a
  | t :: ts, ρ, σ, n, a => Ali.puts ts (fun u hu => n u (List.mem_cons_of_mem _ hu)) (a.set (n t List.mem_cons_self).1 (n t List.mem_cons_self).2)
theorem onE_runA {α β : Type} {rel : Hp → Option Addr → α → β → Prop} {f : M α} {k : α → Wd → SR} (h : StS K cm xa q ρ ph w σ H) (a : Ali it il m ρ σ H) (hp : PostA K cm xa q it il m Wx D (onE f ρ w k)) :
    Run K cm xa (OwnS q.O0 ρ σ) rel Wx ρ σ ph H w f (fun b H1 => ∃ x ph1 w1, rel H1 ph1 x b ∧ StS K cm xa q ρ ph1 w1 σ H1 ∧ Ali it il m ρ σ H1 ∧ PostA K cm xa q it il m Wx D (k x w1)) := by
  refine ⟨h.env, h.hand, ?_⟩
  unfold onE at hp
  cases et : f w with
  | ok x w' =>
    rw [et] at hp
    exact fun b H1 ph1 x1 s1 hk r => ⟨x, ph1, w', r, h.ext x1 s1 hk, a.ext h x1, hp⟩
  | ex c ns xs w' =>
    rw [et] at hp
    exact fun dd H1 ph1 vs x1 s1 hk hd l rv => hp σ H1 ph1 dd vs (h.ext x1 s1 hk) hd l rv
  | bad => rw [et] at hp; exact (show False from hp).elim
end
section
variable {X : Cx} {c : Cfg} {q : Sq} {pos : Pos} {e : Expr} {fe : EF} {st : Stmt} {sts : List Stmt} {s t : SF} {it il m : Nat}
theorem pssa_nil : PSSA X c q it il m [] sNext := PSs.to L2.pss_nil fun D σ H ⟨ρ, ph, w, h, a, hp⟩ => hp σ H ph h a
theorem pssa_one (h1 : PSA X c q it il m st s) : PSSA X c q it il m [st] s := L2.pss_one h1
theorem pssa_cons (h1 : PSA X c q it il m st s) (h2 : PSSA X c q it il m sts t) : PSSA X c q it il m (st :: sts) (sSeq s t) := PSs.to (L2.pss_cons h1 h2) fun D σ H ⟨ρ, ph, w, h, a, hp⟩ => by
  refine ⟨ρ, ph, w, h, a, ?_⟩
  unfold sSeq at hp
  cases er : s ρ w with
  | nx ρ' w' =>
    rw [er] at hp
    exact fun σ' H' ph' h2 a2 => ⟨ρ', ph', w', h2, a2, hp⟩
  | rt d w' => rw [er] at hp; exact hp
  | bk ρ' w' => rw [er] at hp; exact hp
  | ct ρ' w' => rw [er] at hp; exact hp
  | ex c ns xs ρ' w' => rw [er] at hp; exact hp
  | bad => rw [er] at hp; exact hp
theorem psa_cnt : PSA X c q it il m (.Continue pos) sCnt := PS.to L2.ps_continue fun D σ H ⟨ρ, ph, w, h, a, hp⟩ => hp σ H ph h a
theorem psa_set {i : Nat} {x : Str} {pos' : Pos} (h1 : i ≠ it) (h2 : i ≠ il) (hN : X.N.Nodup) (hi : X.N[i]? = some x) (hx : L2.Loc X.env.scope x) (he : PX X c e fe) (hs : swapsWith e (some (.Name x pos')) pos.line X.env = pure false := by rfl) (hf : X.fn x = true ∨ X.env.scope.names.lookup x = some .local := by first | exact .inl rfl | exact .inr rfl | assumption) :
    PSA X c q it il m (.Assign [.Name x pos'] e pos) (sSet i fe) :=
  PS.to (L2.ps_set hN hi hx he hs hf) fun D σ H ⟨ρ, ph, w, h, a, hp⟩ => ⟨_, ρ, ph, w, (onE_runA h a hp).imp fun v H1 ⟨d, ph1, w1, r, hS, a1, hp1⟩ => hp1 _ H1 ph1 (hS.setd r) (a1.set h1 h2)⟩
theorem psa_if {ta : TF} {b1 b2 : List Stmt} {e1 : Expr} (ht : PTX X c e1 ta) (ha : PSSA X c q it il m b1 s) (hb : PSSA X c q it il m b2 t) : PSA X c q it il m (.If e1 b1 b2 pos) (sIf ta s t) :=
  PS.to (L2.ps_if ht ha hb) fun D σ H ⟨ρ, ph, w, h, a, hp⟩ => by
    have hp2 : PostA X.K c.cm c.xa q it il m c.Wx D (onE (ta ρ) ρ w fun b w' => if b = true then s ρ w' else t ρ w') := hp
    refine ⟨_, ρ, ph, w, h.env, h.hand, ?_⟩
    unfold onE at hp2
    cases et : ta ρ w with
    | ok b w' =>
      rw [et] at hp2
      intro b' H1 ph1 x1 s1 hk z
      cases z
      have h1 := h.ext x1 s1 hk
      have a1 := a.ext h x1
      cases b with
      | true => exact ⟨ρ, ph1, w', h1, a1, hp2⟩
      | false => exact ⟨ρ, ph1, w', h1, a1, hp2⟩
    | ex k ns xs w' =>
      rw [et] at hp2
      intro dd H1 ph1 vs x1 s1 hk hd l rv
      exact hp2 σ H1 ph1 dd vs (h.ext x1 s1 hk) hd l rv
    | bad => rw [et] at hp2; exact (show False from hp2).elim
theorem psa_for {tg iter : Expr} {body : List Stmt} {f : IF} {g : GF} {gt : TG} {is : List Nat} {b : SF} (hne : (is.all fun i => i != it && i != il) = true) (hp : PassesOwn (model X.prog X.w) X.A X.env X.xe) (hc : X.calm = true) (hi : PIRX X c tg iter f) (hg : PG X tg gt) (hG : TGX X.K c.cm g gt is) (hb : PSSA X c q it il m body b)
    (hs : ∀ x, foldedSetIterable iter X.env x = pure x := by intro _; rfl) : PSA X c q it il m (.For tg iter body [] pos) (sFor f g b) :=
  PS.to (L2.ps_for hp hc hi hg hb hs) fun D σ H ⟨ρ, ph, w, h, a, hpo⟩ => by
    rw [List.all_eq_true] at hne
    refine ⟨_, ρ, ph, w, (onE_runA (rel := relR X.K c.cm) h a hpo).imp fun J H1 ⟨xs, ph1, w1, F, h1, a1, hp1⟩ => ?_⟩
    obtain ⟨G, Y, hw, hCG, hY⟩ := F.walk
    refine L2.for_it hw (fun i σ' H' => ∃ ρ' ph' w', StS X.K c.cm c.xa q ρ' ph' w' σ' H' ∧ Ali it il m ρ' σ' H' ∧ PostA X.K c.cm c.xa q it il m c.Wx D (forL g b (xs.drop i) ρ' w')) ⟨ρ, ph1, w1, h1, a1, hp1⟩ (fun i σ' H' _ _ => hCG H' (fun _ => False) none trivial) ?_ ?_
    · rintro i x σ2 H2 H3 hi ⟨ρ2, ph2, w2, h2, a2, hp2⟩ y
      have ex : xs[i]? = some xs[i] := List.getElem?_eq_getElem hi
      obtain ⟨kx, rx⟩ := hY i xs[i] H2 (NN q ρ2 σ2 ph2) ph2 x H3 trivial (fun p hpn => fresh_oo h2.env.tr h2.hand hpn) ex y
      have xt : Ext ph2 H2 H3 := fun b o _ e => kx b o e
      have hh3 : HandOk X.K c.cm H3 (OwnS q.O0 ρ2 σ2) ph2 w2 := h2.hand.keep (Ext.keep xt .refl) fun p _ o e => kx p o e
      have h3 := h2.ext xt .refl hh3
      have a3 := a2.ext h2 xt
      have ed : xs.drop i = xs[i] :: xs.drop (i + 1) := List.drop_eq_getElem_cons hi
      rw [ed] at hp2
      cases eg : g xs[i] ρ2 with
      | none => rw [forL_none eg] at hp2; exact (show False from hp2).elim
      | some ρ3 =>
        rw [forL_cons eg] at hp2
        obtain ⟨ts, rfl, ht, hq⟩ := hG rx eg
        obtain ⟨h4, k4⟩ := StS.puts ts (fun t m => (ht t m).2) h3
        have a4 := a3.puts ts fun t mt => by
          have := hne t.1 (ht t mt).1
          simp only [Bool.and_eq_true, bne_iff_ne] at this
          exact this
        refine hq σ2 _ ⟨_, ph2, w2, h4, a4, ?_⟩
        revert hp2
        cases eb : b (putE ts ρ2) w2 with
        | nx ρ5 w5 => exact fun hp4 σ5 H5 ph5 h5 a5 => ⟨ρ5, ph5, w5, h5, a5, hp4⟩
        | ct ρ5 w5 => exact fun hp4 σ5 H5 ph5 h5 a5 => ⟨ρ5, ph5, w5, h5, a5, hp4⟩
        | bk ρ5 w5 => exact fun hp4 => hp4
        | rt d w5 => exact fun hp4 => hp4
        | ex c ns xs ρ5 w5 => exact fun hp4 => hp4
        | bad => exact fun hp4 => hp4
    · rintro σ2 H2 ⟨ρ2, ph2, w2, h2, a2, hp2⟩
      rw [List.drop_length] at hp2
      exact hp2 σ2 H2 ph2 h2 a2
end
def pAS (it il m n : Nat) (ds xs : List D) (d : D) (ρ : Env) (w : Wd) : SR :=
  if (noT xs d && noTL xs xs && unlL xs ds && ds.all (noTI xs) && okT xs ρ w) = true then .nx (((wipT xs ρ).set it (.nest (ds.set m (.lst (xs.set n d))))).set il (.val (.lst (xs.set n d)))) w else .bad
def pAK (it il m : Nat) (ρ : Env) : List D → Wd → SR
  | [d, .int k], w => (match ρ[it]?, ρ[il]? with
    | some (.nest ds), some (.val (.lst xs)) => (match ixP xs.length k with
      | some n => pAS it il m n ds xs d ρ w
      | none => .bad)
    | _, _ => .bad)
  | _, _ => .bad
theorem pAK_cases (it il m : Nat) (ρ : Env) (zs : List D) (w : Wd) : pAK it il m ρ zs w = .bad ∨ ∃ d k ds xs n, zs = [d, .int k] ∧ ρ[it]? = some (.nest ds) ∧ ρ[il]? = some (.val (.lst xs)) ∧ ixP xs.length k = some n ∧ pAK it il m ρ zs w = pAS it il m n ds xs d ρ w := by
  unfold pAK
  split
  · rename_i d k
    split
    · rename_i ds xs e1 e2
      split
      · rename_i n e4
        exact .inr ⟨d, k, ds, xs, n, rfl, e1, e2, e4, rfl⟩
      · exact .inl rfl
    · exact .inl rfl
  · exact .inl rfl
def sPutA (it il m : Nat) (fk fe : EF) : SF := fun ρ w => onE (M.bind (fe ρ) fun d => M.bind (fk ρ) fun k => M.ret [d, k]) ρ w (pAK it il m ρ)
section
variable {K : PySem.W.Frag} {cm : Nat → Addr} {xa : Option (Addr × Nat × Addr)} {q : Sq} {ρ : Env} {σ : St} {H : Hp} {ph : Option Addr} {w : Wd} {Wx : WX} {D : Ends} {it il m n : Nat}
theorem set_same {σ : St} {i : Nat} {v : V} (h : σ[i]? = some (some v)) : σ.set i (some v) = σ := by
  apply List.ext_getElem?
  intro j
  by_cases hj : i = j
  · subst hj
    rw [List.getElem?_set_self (List.getElem?_eq_some_iff.mp h).1, h]
  · rw [List.getElem?_set_ne hj]
theorem putA_end (dis : Dis K H) (hne : it ≠ il) {ds xs : List FL.D} {d : FL.D} {p b : Addr} {vs us : List V} {v : V} (h : StS K cm xa q ρ ph w σ H) (e0 : ρ[it]? = some (.nest ds)) (e1 : ρ[il]? = some (.val (.lst xs))) (em : ds[m]? = some (.lst xs)) (f0 : σ[it]? = some (some (.ref p))) (hp : H p = some (.lst vs)) (ev : vs[m]? = some (.ref b)) (f1 : σ[il]? = some (some (.ref b))) (hb : H b = some (.lst us))
    (r : Rep K cm H (NN q ρ σ ph) ph d v) (post : PostA K cm xa q it il m Wx D (pAS it il m n ds xs d ρ w)) : D.nx σ (upd H b (.lst (us.set n v))) := by
  unfold pAS at post
  by_cases c : (noT xs d && noTL xs xs && unlL xs ds && ds.all (noTI xs) && okT xs ρ w) = true
  · rw [if_pos c] at post
    simp only [Bool.and_eq_true, List.all_eq_true] at c
    obtain ⟨⟨⟨⟨c1, c2⟩, c3⟩, c4⟩, c5⟩ := c
    obtain ⟨v', ea, ra⟩ := h.env.nestd e0
    rw [f0] at ea; cases ea
    obtain ⟨p2, vs2, eb, ⟨np, hp2⟩, rl⟩ := lst_of ra
    cases eb
    rw [hp] at hp2; cases hp2
    obtain ⟨p3, vs3, ec, Bp, hp3, hn⟩ := h.news it ds _ e0 f0
    cases ec
    rw [hp] at hp3; cases hp3
    obtain ⟨b2, ed, Bb, hd⟩ := hn m xs em
    rw [ev] at ed; cases ed
    obtain ⟨vm, ef, rm⟩ := rl.get em
    rw [ev] at ef; cases ef
    obtain ⟨b3, us2, eg, ⟨nb, hb2⟩, rx⟩ := lst_of rm
    cases eg
    rw [hb] at hb2; cases hb2
    have pb : p ≠ b := fun z => by
      subst z
      rw [hp] at hb; cases hb
      rw [unlL_rep dis _ _ _ rx rl] at c3
      exact Bool.false_ne_true c3
    have S := h.put dis (us' := us.set n v) nb hb rx Bb c5
    have hp5 : upd H b (.lst (us.set n v)) p = some (.lst vs) := by rw [upd_ne pb]; exact hp
    have hm : m < ds.length := (List.getElem?_eq_some_iff.mp em).1
    have new : RepL K cm (upd H b (.lst (us.set n v))) (NN q ρ σ ph) ph (xs.set n d) (us.set n v) := RepL.set (repl_upd dis hb rx xs us c2 rx) (rep_upd dis hb rx d v c1 r)
    have items : RepL K cm (upd H b (.lst (us.set n v))) (NN q ρ σ ph) ph (ds.set m (.lst (xs.set n d))) vs := by
      refine RepL.of_get _ _ (by rw [List.length_set]; exact rl.length) fun k d0 v0 k1 k2 => ?_
      by_cases km : m = k
      · subst km
        rw [List.getElem?_set_self hm] at k1
        cases k1
        rw [ev] at k2; cases k2
        simp only [Rep]
        exact ⟨b, us.set n v, rfl, ⟨nb, upd_same⟩, new⟩
      · rw [List.getElem?_set_ne km] at k1
        obtain ⟨v1, k3, r1⟩ := rl.get k1
        rw [k2] at k3; cases k3
        have ci := c4 d0 (List.mem_of_getElem? k1)
        cases d0 with
        | lst ys =>
          obtain ⟨a, vs4, ez, ⟨na, ha⟩, r4⟩ := lst_of r1
          cases ez
          have ab : a ≠ b := fun z => by subst z; exact km (hd k k2)
          simp only [Rep]
          exact ⟨a, vs4, rfl, ⟨na, by rw [upd_ne ab]; exact ha⟩, repl_upd dis hb rx ys vs4 ci r4⟩
        | _ => exact rep_upd dis hb rx _ _ ci r1
    have S2 := S.setvn (i := it) (s := .nest (ds.set m (.lst (xs.set n d)))) (x := some (.ref p)) (fun _ z => by cases z) (fun ds' v' z1 z2 => by
      cases z1
      cases z2
      refine ⟨p, vs, rfl, Bp, hp5, fun k ys k1 => ?_⟩
      by_cases km : m = k
      · subst km
        exact ⟨b, ev, Bb, hd⟩
      · rw [List.getElem?_set_ne km] at k1
        exact hn k ys k1) ⟨.ref p, rfl, by
        rw [owns_wipT]
        simp only [Rep]
        exact ⟨p, vs, rfl, ⟨np, hp5⟩, items⟩⟩
    rw [set_same f0] at S2
    have own2 : OwnS q.O0 ((wipT xs ρ).set it (.nest (ds.set m (.lst (xs.set n d))))) σ = OwnS q.O0 ρ σ := by
      have e2 : OwnS q.O0 ((wipT xs ρ).set it (.nest (ds.set m (.lst (xs.set n d))))) σ = OwnS q.O0 (wipT xs ρ) σ := by
        funext a
        refine propext ⟨fun z => ?_, fun z => ?_⟩
        · rcases z with z | ⟨i, ys, z1, z2⟩
          · exact .inl z
          · rcases get_set_or z1 with ⟨_, z3⟩ | ⟨_, z3⟩
            · cases z3
            · exact .inr ⟨i, ys, z3, z2⟩
        · rcases z with z | ⟨i, ys, z1, z2⟩
          · exact .inl z
          · refine .inr ⟨i, ys, ?_, z2⟩
            rw [List.getElem?_set_ne]
            · exact z1
            · intro y
              subst y
              have := wipT_own.mp z1
              rw [e0] at this
              cases this
      rw [e2, owns_wipT]
    have S3 := S2.setd (i := il) (d := .lst (xs.set n d)) (v := .ref b) (by
      show Rep K cm _ (OO _ ph) ph _ _
      rw [own2]
      simp only [Rep]
      exact ⟨b, us.set n v, rfl, ⟨nb, upd_same⟩, new⟩)
    rw [set_same f1] at S3
    have li : it < ρ.length := (List.getElem?_eq_some_iff.mp e0).1
    have ll : il < ρ.length := (List.getElem?_eq_some_iff.mp e1).1
    have lw : (wipT xs ρ).length = ρ.length := by unfold wipT; rw [List.length_map]
    refine post σ _ ph S3 ⟨ds.set m (.lst (xs.set n d)), xs.set n d, p, b, vs, ?_, ?_, ?_, f0, hp5, ev, f1⟩
    · rw [List.getElem?_set_ne (Ne.symm hne), List.getElem?_set_self (by rw [lw]; exact li)]
    · rw [List.getElem?_set_self (by rw [List.length_set, lw]; exact ll)]
    · rw [List.getElem?_set_self hm]
  · rw [if_neg c] at post; exact (show False from post).elim
end
section
variable {X : Cx} {c : Cfg} {q : Sq} {pos : Pos} {it il m : Nat}
theorem psa_put (hne : it ≠ il) {x : Str} {p0 p2 : Pos} {k e : Expr} {fk fe : EF} (he : PX X c e fe)
    (hg : PG X (.Subscript (.Name x p0) k p2) (L2.gSub (L2.tVar il) (tX X.K c.cm c.xa c.Wx fk) (rDis X.K L2.rSetL))) (hs : swapsWithSole [.Subscript (.Name x p0) k p2] e pos.line X.env = pure false := by rfl) (hw : swappedStores [.Subscript (.Name x p0) k p2] e X.env = pure none := by rfl)
    (h1 : (assignEach [.Subscript (.Name x p0) k p2] X.env).map (·.2) = [assign (.Subscript (.Name x p0) k p2) X.env] := by rfl) : PSA X c q it il m (.Assign [.Subscript (.Name x p0) k p2] e pos) (sPutA it il m fk fe) :=
  PS.to (L2.ps_asg he hg hs hw h1) fun D σ H ⟨ρ, ph, w, h, a, hp⟩ => by
    obtain ⟨ds0, xs0, p, b, vs, a1, a2, a3, a4, a5, a6, a7⟩ := id a
    have r0 := onE_runA (rel := relL X.K c.cm (OwnS q.O0 ρ σ)) h a hp
    refine ⟨_, ρ, ph, w, (Run.bind (rel := relV X.K c.cm (OwnS q.O0 ρ σ)) r0).imp fun v H1 ⟨d, ph1, w1, e1, s1, r1, h1⟩ => ?_⟩
    refine ⟨.ref b, a7, _, ρ, ph1, w1, (Run.bind (rel := relV X.K c.cm (OwnS q.O0 ρ σ)) h1).imp fun kv H3 ⟨kd, ph3, w3, e3, s3, r3, h3⟩ => ?_⟩
    have k3 := Ext.keep (O := OwnS q.O0 ρ σ) e3 s3
    obtain ⟨zs, ph4, w4, rz, st, al, hp4⟩ := h3.ret (b := [v, kv]) (RepL.cons (Rep.keep k3 s3.m d v r1) (RepL.cons r3 RepL.nil))
    rcases pAK_cases it il m ρ zs w4 with z | ⟨d', k', ds, xs, n, rfl, e5, e6, e8, z⟩
    · rw [z] at hp4; exact (show False from hp4).elim
    · rw [z] at hp4
      rw [a1] at e5; cases e5
      rw [a2] at e6; cases e6
      obtain ⟨_, _, y1, q1, q2⟩ := RepL.uncons rz
      cases y1
      obtain ⟨_, _, y1, q3, q4⟩ := q2.uncons
      cases y1
      cases int_of q3
      obtain ⟨ds2, xs2, p2, b2, vs2, c1, c2, c3, c4, c5, c6, c7⟩ := al
      rw [a1] at c1; cases c1
      rw [a2] at c2; cases c2
      rw [a4] at c4; cases c4
      rw [a7] at c7; cases c7
      obtain ⟨v5, t1, t2⟩ := st.env.val a2
      rw [a7] at t1; cases t1
      obtain ⟨b5, us, eb, ⟨nb, hb⟩, rx⟩ := lst_of t2
      cases eb
      exact fun dis => ⟨b, us, k', n, rfl, rfl, hb, by rw [ixP_eq, ← rx.length]; exact e8, putA_end dis hne st a1 a2 c3 a4 c5 c6 a7 hb q1 hp4⟩
end
def sAli (it il : Nat) (fj : EF) (s : Nat → SF) : SF := fun ρ w => match ρ[it]? with
  | some (.nest ds) => onE (fj ρ) ρ w fun j w' => (match j with
    | .int j => (match ixP ds.length j with
      | some m => (match ds[m]?, ρ[il]? with
        | some (.lst xs), some _ => s m (ρ.set il (.val (.lst xs))) w'
        | _, _ => .bad)
      | none => .bad)
    | _ => .bad)
  | _ => .bad
section
variable {K : PySem.W.Frag} {cm : Nat → Addr} {xa : Option (Addr × Nat × Addr)} {q : Sq} {Wx : WX} {D : Ends} {r : SR} {it il m : Nat}
theorem Post3.ali (h : Post3 K cm xa q Wx D r) : PostA K cm xa q it il m Wx D r := by
  cases r with
  | nx ρ' w' => exact fun σ' H' ph' s _ => h σ' H' ph' s
  | bk ρ' w' => exact fun σ' H' ph' s _ => h σ' H' ph' s
  | ct ρ' w' => exact fun σ' H' ph' s _ => h σ' H' ph' s
  | rt d w' => exact h
  | ex c ns xs ρ' w' => exact h
  | bad => exact h
end
section
variable {X : Cx} {c : Cfg} {q : Sq} {pos : Pos} {it il : Nat} {sts : List Stmt} {s : Nat → SF} {fj : EF}
theorem pssy_ali (hne : it ≠ il) {x y : Str} {p0 p1 p2 : Pos} {j : Expr} (hN : X.N.Nodup) (hi : X.N[il]? = some x) (hx : L2.Loc X.env.scope x) (he : PE X (.Subscript (.Name y p0) j p1) (L2.tOp (L2.rIx X.K) (L2.tVar it) (tX X.K c.cm c.xa c.Wx fj)))
    (hb : ∀ m, PSSA X c q it il m sts (s m)) (hs : swapsWith (.Subscript (.Name y p0) j p1) (some (.Name x p2)) pos.line X.env = pure false := by rfl) (hf : X.fn x = true ∨ X.env.scope.names.lookup x = some .local := by first | exact .inl rfl | exact .inr rfl | assumption) :
    PSSY X c q (.Assign [.Name x p2] (.Subscript (.Name y p0) j p1) pos :: sts) (sAli it il fj s) :=
  PSs.to (L2.pss_cons (L2.ps_set hN hi hx he hs hf) (u := fun D σ H => ∃ m, tA X.K c.cm c.xa q it il m c.Wx (s m) D σ H) ⟨fun pins s' σ H D I ⟨m, z⟩ => (hb m).run pins s' σ H D I z⟩) fun D σ H ⟨ρ, ph, w, h, hp⟩ => by
    unfold sAli at hp
    cases e0 : ρ[it]? with
    | none => rw [e0] at hp; exact (show False from hp).elim
    | some sl =>
      rw [e0] at hp
      cases sl with
      | nest ds =>
        obtain ⟨v0, f1, f2⟩ := h.env.nestd e0
        obtain ⟨p, vs0, rfl, _, _⟩ := lst_of f2
        have r0 := onE_run3 (rel := relV X.K c.cm (OwnS q.O0 ρ σ)) h hp
        refine ⟨.ref p, f1, _, ρ, ph, w, r0.imp fun jv H2 ⟨jd, ph2, w2, r2, h2, hp2⟩ => ?_⟩
        obtain ⟨v2, g1, g2⟩ := h2.env.nestd e0
        rw [f1] at g1; cases g1
        obtain ⟨p2, vs, ez, ⟨np, hv2⟩, rl⟩ := lst_of g2
        cases ez
        cases jd with
        | int j =>
          cases int_of r2
          simp only at hp2
          cases e6 : ixP ds.length j with
          | none => rw [e6] at hp2; exact (show False from hp2).elim
          | some m =>
            rw [e6] at hp2
            simp only at hp2
            cases e7 : ds[m]? with
            | none => rw [e7] at hp2; exact (show False from hp2).elim
            | some d =>
              rw [e7] at hp2
              cases d with
              | lst xs =>
                cases e8 : ρ[il]? with
                | none => rw [e8] at hp2; exact (show False from hp2).elim
                | some so =>
                rw [e8] at hp2
                obtain ⟨v6, ev, rm⟩ := rl.get e7
                obtain ⟨b, us, rfl, ⟨nb, hb'⟩, rx⟩ := lst_of rm
                have ea : L2.atI vs j = some (.ref b) := by
                  rw [itemAt_eq]
                  unfold itemAt
                  rw [← rl.length, e6]
                  exact ev
                refine .inl ⟨p, vs, j, .ref b, rfl, rfl, .inl (.inl hv2), ea, ?_⟩
                have ll : il < ρ.length := (List.getElem?_eq_some_iff.mp e8).1
                have lσ : il < σ.length := by rw [h.env.len]; exact ll
                refine ⟨m, ρ.set il (.val (.lst xs)), ph2, w2, h2.setd rm, ?_, hp2.ali⟩
                exact ⟨ds, xs, p, b, vs, by rw [List.getElem?_set_ne (Ne.symm hne)]; exact e0, List.getElem?_set_self ll, e7, by rw [List.getElem?_set_ne (Ne.symm hne)]; exact f1, hv2, ev, List.getElem?_set_self lσ⟩
              | _ => exact (show False from hp2).elim
        | _ => exact (show False from hp2).elim
      | _ => exact (show False from hp).elim
end
end FL
namespace FL
open PySem
open L2 (It V Hp HO Cx Inv VK XK TE TT TA TS TI TG PE PT PA PS PSs PI PG Ends WX RelV Vals Rd upd upd_same upd_ne ne_of_none EP TP AP OpR R2 CallR FnOk Room Binds)
def gTN (i : Nat) (is : List Nat) : GF := fun d ρ => match d with
  | .tup [x, .tup ds] => gAll is ds (ρ.set i (.val x))
  | _ => none
theorem tgx_tn {K : PySem.W.Frag} {cm : Nat → Addr} (i : Nat) (is : List Nat) : TGX K cm (gTN i is) (L2.gTup K 2 (L2.gCons (L2.gName i) (L2.gCons (L2.gTup K is.length (gNames is)) L2.gNil))) (i :: is) := fun {H N ph d v ρ ρ'} r e => by
  unfold gTN at e
  split at e
  · rename_i x ds
    obtain ⟨a, vs, rfl, t, rl⟩ := tup_of r
    obtain ⟨v1, vs1, rfl, r1, q1⟩ := rl.uncons
    obtain ⟨v2, vs2, rfl, r2, q2⟩ := q1.uncons
    cases q2.unnil
    obtain ⟨a2, us, rfl, t2, rl2⟩ := tup_of r2
    obtain ⟨l, ts, e1, ht, hq⟩ := gAll_put is ds us _ ρ' rl2 e
    refine ⟨(i, x, v1) :: ts, e1, fun z hz => ?_, fun σ Q h => ⟨a, [v1, .ref a2], rfl, t.seq, rfl, v1, [.ref a2], rfl, .ref a2, [], rfl, a2, us, rfl, t2.seq, l, hq (σ.set i (some v1)) _ ⟨rfl, h⟩⟩⟩
    rcases List.mem_cons.mp hz with rfl | hz
    · exact ⟨by simp, r1⟩
    · exact ⟨List.mem_cons_of_mem _ (ht z hz).1, (ht z hz).2⟩
  · cases e
def nBor (f : NF) : NF := fun ρ w => match f (borE ρ) none with
  | .ok ds none => if noLstL ds = true then .ok ds w else .bad
  | _ => .bad
section
variable {X : Cx} {c : Cfg} {q : Sq}
variable {i : Nat} {y : Str} {py : Pos} {elt tg iter : Expr} {ifs : List Expr} {scope : Scope} {own : List (Str × Nat)} {pos spos : Pos} {f : IF} {g : GF} {gt : TG} {is : List Nat} {t : TF} {fe : EF}
theorem psx_ownLcB (hc : X.calm = true) (hN : X.N.Nodup) (hy : X.N[i]? = some y) (hyl : X.env.scope.names.lookup y = some .local) (hsw : swapsWith (.ListComp elt [⟨tg, iter, ifs, 0⟩] scope pos) (some (.Name y py)) spos.line X.env = pure true)
    (hi : PIX X c tg iter f) (ok : L2.BlkOk X.N X.env.scope scope own) (his : own.map (·.2) = is) (hg : ∀ (s : Shared) (H : Hp) (C : Addr) (cl : List (Str × Addr)) (fp : List Addr), PG (X.blk s H scope (compEnvC scope cl C X.env) fp) tg gt) (hG : TGX X.K c.cm g gt is)
    (ht : ∀ (s : Shared) (H : Hp) (C : Addr) (cl : List (Str × Addr)) (fp : List Addr), PTSX (X.blk s H scope (compEnvC scope cl C X.env) fp) ⟨c.cm, c.xa, noW⟩ ifs t)
    (he : ∀ (s : Shared) (H : Hp) (C : Addr) (cl : List (Str × Addr)) (fp : List Addr), PX (X.blk s H scope (compEnvC scope cl C X.env) fp) ⟨c.cm, c.xa, noW⟩ elt fe) (hs : ∀ x, foldedSetIterable iter X.env x = pure x := by intro _; rfl) :
    PSX X c q (.Assign [.Name y py] (.ListComp elt [⟨tg, iter, ifs, 0⟩] scope pos) spos) (sOwn i (nBor (nLc f is g t fe))) :=
  PS.to (L2.ps_setLc hc hN hy hyl hsw hi ok hg ht he hs) fun D σ H ⟨ρ, ph, w, h, hp⟩ => by
    refine lc_read (t := t) (fe := fe) his hG σ H _ ⟨borO (OwnS q.O0 ρ σ) ρ σ ph, borE ρ, none, none, bor_env h.env h.hand, trivial, ?_⟩
    have post := (onE_run (rel := relL X.K c.cm (OwnS q.O0 ρ σ)) h hp).post
    unfold nBor at post
    cases er : nLc f is g t fe (borE ρ) none with
    | ok ds w1 =>
      rw [er] at post
      cases w1 with
      | some hs => exact (show False from post).elim
      | none =>
        simp only at post
        by_cases hn : noLstL ds = true
        · rw [if_pos hn] at post
          intro vs H' ph1 x s hk r
          cases ph1 with
          | some p => exact hk.elim
          | none =>
            obtain ⟨ds1, ph2, w2, r1, h1, k, hp1⟩ := post vs H' ph (fun b o _ e => x b o (fun q => by cases q) e) .refl (bor_hand h.hand x) (repl_nolst (bor_lists h.env x) ds vs hn r)
            exact fun p hpn => own_tail h1 r1 hpn hp1
        · rw [if_neg hn] at post; exact (show False from post).elim
    | ex k ns xs w1 => rw [er] at post; exact (show False from post).elim
    | bad => rw [er] at post; exact (show False from post).elim
end
def rgD (n : Nat) : List D := (List.range n).map fun (k : Nat) => D.int (k : Int)
def tupRgD : D → M D
  | .int n => if 0 ≤ n ∧ n ≤ 1000000 then M.ret (.tup (rgD n.toNat)) else M.fail
  | _ => M.fail
section
variable {K : PySem.W.Frag} {cm : Nat → Addr} {H : Hp} {N : NS} {ph : Option Addr}
theorem rep_rg : ∀ (ks : List Nat), RepL K cm H N ph (ks.map fun (k : Nat) => D.int (k : Int)) (ks.map fun (k : Nat) => V.int (0 + ((k : Nat) : Int)))
  | [] => RepL.nil
  | k :: ks => RepL.cons (by simp [Rep]) (rep_rg ks)
variable {X : Cx} {c : Cfg} {a : Expr} {fa : EF} {p p2 pos pos2 : Pos}
theorem px_tupRg (hc : X.calm = true) (hg : L2.Gl X "tuple") (hm : X.mg "tuple" = none) (hg2 : L2.Gl X "range") (hm2 : X.mg "range" = none) (ha : PX X c a fa) (na : starEach [a] X.env = (false, eval a X.env) :: starEach [] X.env := by rfl)
    (nb : starEach [.Call (.Name "range" p2) [a] [] pos2] X.env = (false, eval (.Call (.Name "range" p2) [a] [] pos2) X.env) :: starEach [] X.env := by rfl) : PX X c (.Call (.Name "tuple" p) [.Call (.Name "range" p2) [a] [] pos2] [] pos) (eUn tupRgD fa) :=
  PE.to (L2.pe_tupRg hc hg hm (L2.prg_1 hg2 hm2 ha na) nb) fun σ H Q ⟨O, ρ, ph, w, h⟩ => ⟨O, ρ, ph, w, (Run.bind (rel := relV X.K c.cm O) h).imp fun v H1 ⟨d, ph1, w1, e1, s1, r1, h1⟩ => by
    cases d with
    | int n =>
      cases int_of r1
      unfold tupRgD at h1
      by_cases hn : 0 ≤ n ∧ n ≤ 1000000
      · simp only [if_pos hn] at h1
        refine ⟨n, rfl, L2.RgOk.of_le (by decide) (by omega) (by decide) hn.1, fun q hq => ?_⟩
        have := h1.tup hq (vs := L2.rgV 0 n) (by
          unfold rgD L2.rgV
          rw [Int.sub_zero]
          exact rep_rg _)
        exact this
      · simp only [if_neg hn] at h1; exact h1.no
    | _ => exact h1.no⟩
end
end FL
namespace FL
open PySem
open L2 (It V Hp HO Cx Inv VK XK TE TT TA TS TI TG PE PT PA PS PSs PI PG Ends WX RelV Vals Rd upd upd_same upd_ne ne_of_none EP TP AP OpR R2 CallR FnOk Room Binds)
def addTD (d e : D) : M D := match d, e with
  | .tup [], .tup ys => if ys.length ≤ line then M.ret (.tup ys) else M.fail
  | d, e => addD d e
def rAddT (K : PySem.W.Frag) : R2 := fun x y H Q => rAddA K x y H Q ∨ L2.rCatA K x y H Q
theorem op_addT {X : Cx} : OpR X (binaryOp .Add) (rAddT X.K) := L2.OpR.or op_addA L2.op_catA
theorem addT_ok {K : PySem.W.Frag} {cm : Nat → Addr} : Op2 K cm addTD (rAddT K) := by
  intro xa O Wx ρ σ ph H w Q d1 d2 v1 v2 r1 r2 h
  by_cases c : ∃ ys, d1 = .tup [] ∧ d2 = .tup ys
  · obtain ⟨ys, rfl, rfl⟩ := c
    obtain ⟨a, vs, rfl, ha, ra⟩ := tup_of r1
    obtain ⟨b, ws, rfl, hb, rb⟩ := tup_of r2
    cases ra.unnil
    by_cases hc : ys.length ≤ line
    · have h : Run K cm xa O (relV K cm O) Wx ρ σ ph H w (if ys.length ≤ line then M.ret (.tup ys) else M.fail) Q := h
      rw [if_pos hc] at h
      refine .inr ⟨a, b, [], ws, rfl, rfl, ha.seq, hb.seq, ?_, fun _ => h.ret (b := .ref b) r2, fun z => absurd rfl z, fun z => absurd rfl z⟩
      rw [← rb.length, sizeLine_eq, List.length_nil, Nat.zero_add]
      unfold line at hc
      omega
    · have h : Run K cm xa O (relV K cm O) Wx ρ σ ph H w (if ys.length ≤ line then M.ret (.tup ys) else M.fail) Q := h
      rw [if_neg hc] at h
      exact h.no
  · have e : addTD d1 d2 = addD d1 d2 := by
      unfold addTD
      split
      · rename_i ys; exact absurd ⟨ys, rfl, rfl⟩ c
      · rfl
    rw [e] at h
    exact .inl (add_ok _ _ _ _ r1 r2 h)
end FL
namespace K49
open PySem FL
open L2 (V Hp FnOk Vals Binds)
def cs_ : List Nat := [100, 101]
def fs_ : Nat → List Str := fun k => match k with | 100 => ["ring"] | 101 => ["least", "most", "least_trail", "most_trail"] | _ => []
def qs_ : Nat → Str := fun k => match k with | 100 => "NoCart.__init__" | 101 => "SumBounds.__init__" | _ => ""
structure Tx (P : Program) (K : PySem.W.Frag) (mg : Str → Option Value) (cm : Nat → Addr) : Prop where
  g_gcd : mg "gcd" = some (.builtin "math.gcd")
  g_lcm : mg "lcm" = some (.builtin "math.lcm")
  n_abs : mg "abs" = none
  n_bool : mg "bool" = none
  n_enumerate : mg "enumerate" = none
  n_int : mg "int" = none
  n_isinstance : mg "isinstance" = none
  n_len : mg "len" = none
  n_list : mg "list" = none
  n_range : mg "range" = none
  n_sum : mg "sum" = none
  n_tuple : mg "tuple" = none
  c_ZERO : FL.GTup K mg "ZERO" 0 1
  x_1 : mg "BadRatio" = some (.ref (cm 1))
  exc_1 {w : World} {base : Heap} : FL.ExcH P w K mg base "BadRatio" (cm 1) ["what"]
  x_2 : mg "BadAmount" = some (.ref (cm 2))
  exc_2 {w : World} {base : Heap} : FL.ExcH P w K mg base "BadAmount" (cm 2) ["amount"]
  x_3 : mg "BadCount" = some (.ref (cm 3))
  exc_3 {w : World} {base : Heap} : FL.ExcH P w K mg base "BadCount" (cm 3) ["many"]
  x_4 : mg "BadTie" = some (.ref (cm 4))
  exc_4 {w : World} {base : Heap} : FL.ExcH P w K mg base "BadTie" (cm 4) ["index", "what"]
  x_5 : mg "BadMarks" = some (.ref (cm 5))
  exc_5 {w : World} {base : Heap} : FL.ExcH P w K mg base "BadMarks" (cm 5) ["low", "high"]
  x_6 : mg "BadTelling" = some (.ref (cm 6))
  exc_6 {w : World} {base : Heap} : FL.ExcH P w K mg base "BadTelling" (cm 6) ["index", "what"]
  x_7 : mg "NoFit" = some (.ref (cm 7))
  exc_7 {w : World} {base : Heap} : FL.ExcH P w K mg base "NoFit" (cm 7) ["many"]
  x_100 : mg "NoCart" = some (.ref (cm 100))
  x_101 : mg "SumBounds" = some (.ref (cm 101))
  all : FL.AllC K cm cs_ fs_ qs_
  d__law_digits : ∃ f fd, FL.DefAt K mg "_law_digits" s__law_digits [] f fd
  d__law_tie : ∃ f fd, FL.DefAt K mg "_law_tie" s__law_tie [] f fd
  d__law_round_true : ∃ f fd, FL.DefAt K mg "_law_round_true" s__law_round_true [] f fd
  d__law_gcd : ∃ f fd, FL.DefAt K mg "_law_gcd" s__law_gcd [] f fd
  d__law_ratio : ∃ f fd, FL.DefAt K mg "_law_ratio" s__law_ratio [] f fd
  d__law_told : ∃ f fd, FL.DefAt K mg "_law_told" s__law_told [] f fd
  d__law_table : ∃ f fd, FL.DefAt K mg "_law_table" s__law_table [] f fd
  d__law_widest : ∃ f fd, FL.DefAt K mg "_law_widest" s__law_widest [] f fd
  d__law_cell : ∃ f fd, FL.DefAt K mg "_law_cell" s__law_cell [] f fd
  d__law_weights : ∃ f fd, FL.DefAt K mg "_law_weights" s__law_weights [] f fd
  d__law_verdict : ∃ f fd, FL.DefAt K mg "_law_verdict" s__law_verdict [] f fd
  d_is_whole : ∃ f fd, FL.DefAt K mg "is_whole" s_is_whole [.non, .non] f fd
  d_check_count : ∃ f fd, FL.DefAt K mg "check_count" s_check_count [] f fd
  d_are_marks : ∃ f fd, FL.DefAt K mg "are_marks" s_are_marks [] f fd
  d_compare : ∃ f fd, FL.DefAt K mg "compare" s_compare [] f fd
  d_is_ratio : ∃ f fd, FL.DefAt K mg "is_ratio" s_is_ratio [] f fd
  d_check_tellings : ∃ f fd, FL.DefAt K mg "check_tellings" s_check_tellings [] f fd
  d_check_ties : ∃ f fd, FL.DefAt K mg "check_ties" s_check_ties [] f fd
  d_negative : ∃ f fd, FL.DefAt K mg "negative" s_negative [] f fd
  d_bounds_by : ∃ f fd, FL.DefAt K mg "bounds_by" s_bounds_by [] f fd
  d_bottom_of : ∃ f fd, FL.DefAt K mg "bottom_of" s_bottom_of [] f fd
  d_spread_amounts : ∃ f fd, FL.DefAt K mg "spread_amounts" s_spread_amounts [] f fd
  m_NoCart___init__ : ∃ f fd, FL.MethAt K (cm 100) "__init__" "NoCart.__init__" s_NoCart___init__ [] f fd
  d_ring_through : ∃ f fd, FL.DefAt K mg "ring_through" s_ring_through [] f fd
  d__lowest : ∃ f fd, FL.DefAt K mg "_lowest" s__lowest [] f fd
  d_make_ratio : ∃ f fd, FL.DefAt K mg "make_ratio" s_make_ratio [(.int 1)] f fd
  d_weights_by : ∃ f fd, FL.DefAt K mg "weights_by" s_weights_by [] f fd
  d_check_fit : ∃ f fd, FL.DefAt K mg "check_fit" s_check_fit [] f fd
  d_trail_back : ∃ f fd, FL.DefAt K mg "trail_back" s_trail_back [] f fd
  d_farthest_sum : ∃ f fd, FL.DefAt K mg "farthest_sum" s_farthest_sum [] f fd
  m_SumBounds___init__ : ∃ f fd, FL.MethAt K (cm 101) "__init__" "SumBounds.__init__" s_SumBounds___init__ [] f fd
  d_bounds_between : ∃ f fd, FL.DefAt K mg "bounds_between" s_bounds_between [] f fd
  d_minus : ∃ f fd, FL.DefAt K mg "minus" s_minus [] f fd
  d_next_tie : ∃ f fd, FL.DefAt K mg "next_tie" s_next_tie [] f fd
  d_needless_tellings : ∃ f fd, FL.DefAt K mg "needless_tellings" s_needless_tellings [] f fd
  d_suspect_tellings : ∃ f fd, FL.DefAt K mg "suspect_tellings" s_suspect_tellings [] f fd
  d_check_marks : ∃ f fd, FL.DefAt K mg "check_marks" s_check_marks [] f fd
  d_limit_verdict : ∃ f fd, FL.DefAt K mg "limit_verdict" s_limit_verdict [] f fd
  d_law : ∃ f fd, FL.DefAt K mg "law" s_law [] f fd
section
variable {P : Program} {w : World} {K : PySem.W.Frag} {mg : Str → Option Value} {base : Heap} {cm : Nat → Addr}
abbrev N__law_digits : List Str := ["cell", "many", "big", "out", "at", "state"]
theorem sc__law_digits : L2.FnScope N__law_digits ["cell", "many"] (L2.defScope s__law_digits) := ⟨rfl, rfl, rfl, by decide +kernel, rfl, by decide +kernel, by decide +kernel⟩
def B__law_digits_0 : SF := (sSeq (sApp 3 (eVar 2)) (sSet 2 (eBin fdivD (eVar 2) (eC (.int 997)))))
theorem B__law_digits_0_w {ρ : FL.Env} {w : Wd} : B__law_digits_0 ρ w = (sSeq (sApp 3 (eVar 2)) (sSet 2 (eBin fdivD (eVar 2) (eC (.int 997))))) ρ w := rfl
def B__law_digits_1 : SF := (sSeq (sSet 5 (eBin modD (eCall (un1 intD) [(eBin addD (eBin addD (eBin mulD (eVar 5) (eC (.int 69621))) (eBin mulD (eC (.int 7919)) (eVar 4))) (eC (.int 104729)))]) (eC (.int 2147483629)))) (sApp 3 (eBin fdivD (eVar 5) (eC (.int 13)))))
theorem B__law_digits_1_w {ρ : FL.Env} {w : Wd} : B__law_digits_1 ρ w = (sSeq (sSet 5 (eBin modD (eCall (un1 intD) [(eBin addD (eBin addD (eBin mulD (eVar 5) (eC (.int 69621))) (eBin mulD (eC (.int 7919)) (eVar 4))) (eC (.int 104729)))]) (eC (.int 2147483629)))) (sApp 3 (eBin fdivD (eVar 5) (eC (.int 13))))) ρ w := rfl
def F__law_digits : List D → M D := callF 6 (sSeq (sSet 2 (eCall (un1 absD) [(eCall (un1 intD) [(eVar 0)])])) (sSeq (sOwn 3 (evs [])) (sSeq (sIf (tVal (eBin geD (eVar 2) (eBin powD (eC (.int 10)) (eC (.int 18))))) (sSeq (sFor (iRng (eC (.int 0)) (eVar 1)) (gN 4) B__law_digits_0) (sRetOwn 3)) sNext) (sSeq (sSet 5 (eBin modD (eCall (un1 intD) [(eBin addD (eBin mulD (eVar 0) (eC (.int 48271))) (eC (.int 11)))]) (eC (.int 2147483647)))) (sSeq (sFor (iRng (eC (.int 0)) (eVar 1)) (gN 4) B__law_digits_1) (sSeq (sFrz 3) (sRet (eVar 3))))))))
theorem has__law_digits (T : Tx P K mg cm)  : FL.Has P w K mg base cm "_law_digits" 2 ["cell", "many"] [[]] [] 2 F__law_digits :=
  FL.has_of T.d__law_digits sc__law_digits rfl rfl (by decide) (fun _ _ _ _ _ _ us hl => match us, hl with | [_, _], _ => rfl) (fun f cdv A outer s H E q hr => by have tk : L2N.Takes (L2.cxOf (L2N.CX P w) P w K mg base N__law_digits "_law_digits" (L2.defScope s__law_digits) f cdv A outer s H E) (fun cls d _ H' => E cls d H') := L2N.takes_of rfl rfl rfl rfl; have pa : PassesOwn (model P w) (L2.cxOf (L2N.CX P w) P w K mg base N__law_digits "_law_digits" (L2.defScope s__law_digits) f cdv A outer s H E).A (L2.cxOf (L2N.CX P w) P w K mg base N__law_digits "_law_digits" (L2.defScope s__law_digits) f cdv A outer s H E).env (L2.cxOf (L2N.CX P w) P w K mg base N__law_digits "_law_digits" (L2.defScope s__law_digits) f cdv A outer s H E).xe := L2.passes_of rfl; exact (FL.pssx_cons (FL.psx_set sc__law_digits.nd (i := 2) rfl (by first | exact Or.inl rfl | exact Or.inr rfl) (FL.px_callB L2.call_abs FL.abs_ok (by rfl) T.n_abs FL.bt_abs (FL.pax_cons (FL.px_callTy L2.call_int1 FL.int_ok (by rfl) T.n_int FL.bt_int (FL.pax_cons (FL.px_var 0) FL.pax_nil)) FL.pax_nil))) (FL.pssx_cons (FL.psx_own sc__law_digits.nd (i := 3) rfl (by first | exact Or.inl rfl | exact Or.inr rfl) (FL.pnx_lst FL.pax_nil)) (FL.pssx_cons (FL.psx_if (FL.ptx_cmp L2.op_ge FL.ge_ok (FL.px_var 2) (FL.px_bin L2.op_pow FL.pow_ok FL.px_int FL.px_int) (L2.nomark _)) (FL.pssx_cons (FL.psx_for pa rfl (FL.pix_range1 (by rfl) T.n_range (FL.px_var 1)) (L2.pg_name (i := 4) sc__law_digits.nd rfl (by first | exact Or.inl rfl | exact Or.inr rfl)) (FL.tgx_n 4) (FL.pssx_cons (FL.psx_appE 3 (FL.px_var 2)) (FL.pssx_one (FL.psx_set sc__law_digits.nd (i := 2) rfl (by first | exact Or.inl rfl | exact Or.inr rfl) (FL.px_bin FL.op_fdivZ FL.fdiv_ok (FL.px_var 2) FL.px_int))))) (FL.pssx_one (FL.psx_retOwn 3))) FL.pssx_nil) (FL.pssx_cons (FL.psx_set sc__law_digits.nd (i := 5) rfl (by first | exact Or.inl rfl | exact Or.inr rfl) (FL.px_bin L2.op_modN FL.mod_ok (FL.px_callTy L2.call_int1 FL.int_ok (by rfl) T.n_int FL.bt_int (FL.pax_cons (FL.px_bin FL.op_addA FL.add_ok (FL.px_bin FL.op_mulB FL.mul_ok (FL.px_var 0) FL.px_int) FL.px_int) FL.pax_nil)) FL.px_int)) (FL.pssx_cons (FL.psx_for pa rfl (FL.pix_range1 (by rfl) T.n_range (FL.px_var 1)) (L2.pg_name (i := 4) sc__law_digits.nd rfl (by first | exact Or.inl rfl | exact Or.inr rfl)) (FL.tgx_n 4) (FL.pssx_cons (FL.psx_set sc__law_digits.nd (i := 5) rfl (by first | exact Or.inl rfl | exact Or.inr rfl) (FL.px_bin L2.op_modN FL.mod_ok (FL.px_callTy L2.call_int1 FL.int_ok (by rfl) T.n_int FL.bt_int (FL.pax_cons (FL.px_bin FL.op_addA FL.add_ok (FL.px_bin FL.op_addA FL.add_ok (FL.px_bin FL.op_mulB FL.mul_ok (FL.px_var 5) FL.px_int) (FL.px_bin FL.op_mulB FL.mul_ok FL.px_int (FL.px_var 4))) FL.px_int) FL.pax_nil)) FL.px_int)) (FL.pssx_one (FL.psx_appE 3 (FL.px_bin FL.op_fdivZ FL.fdiv_ok (FL.px_var 5) FL.px_int))))) (FL.pssx_frz 3 (FL.pssx_one (FL.psx_ret (FL.px_var 3))))))))))
abbrev N__law_tie : List Str := ["d", "count", "low"]
theorem sc__law_tie : L2.FnScope N__law_tie ["d", "count"] (L2.defScope s__law_tie) := ⟨rfl, rfl, rfl, by decide +kernel, rfl, by decide +kernel, by decide +kernel⟩
def F__law_tie : List D → M D := callF 3 (sSeq (sSet 2 (eBin modD (eCall (un1 intD) [(eVar 0)]) (eVar 1))) (sRet (eTup [(eVar 2), (eBin addD (eBin addD (eVar 2) (eC (.int 1))) (eBin modD (eBin fdivD (eCall (un1 intD) [(eVar 0)]) (eVar 1)) (eBin subD (eVar 1) (eVar 2))))])))
theorem has__law_tie (T : Tx P K mg cm)  : FL.Has P w K mg base cm "_law_tie" 2 ["d", "count"] [[]] [] 2 F__law_tie :=
  FL.has_of T.d__law_tie sc__law_tie rfl rfl (by decide) (fun _ _ _ _ _ _ us hl => match us, hl with | [_, _], _ => rfl) (fun f cdv A outer s H E q hr => by have tk : L2N.Takes (L2.cxOf (L2N.CX P w) P w K mg base N__law_tie "_law_tie" (L2.defScope s__law_tie) f cdv A outer s H E) (fun cls d _ H' => E cls d H') := L2N.takes_of rfl rfl rfl rfl; have pa : PassesOwn (model P w) (L2.cxOf (L2N.CX P w) P w K mg base N__law_tie "_law_tie" (L2.defScope s__law_tie) f cdv A outer s H E).A (L2.cxOf (L2N.CX P w) P w K mg base N__law_tie "_law_tie" (L2.defScope s__law_tie) f cdv A outer s H E).env (L2.cxOf (L2N.CX P w) P w K mg base N__law_tie "_law_tie" (L2.defScope s__law_tie) f cdv A outer s H E).xe := L2.passes_of rfl; exact (FL.pssx_cons (FL.psx_set sc__law_tie.nd (i := 2) rfl (by first | exact Or.inl rfl | exact Or.inr rfl) (FL.px_bin L2.op_modN FL.mod_ok (FL.px_callTy L2.call_int1 FL.int_ok (by rfl) T.n_int FL.bt_int (FL.pax_cons (FL.px_var 0) FL.pax_nil)) (FL.px_var 1))) (FL.pssx_one (FL.psx_ret (FL.px_tup (FL.pax_cons (FL.px_var 2) (FL.pax_cons (FL.px_bin FL.op_addA FL.add_ok (FL.px_bin FL.op_addA FL.add_ok (FL.px_var 2) FL.px_int) (FL.px_bin L2.op_modN FL.mod_ok (FL.px_bin FL.op_fdivZ FL.fdiv_ok (FL.px_callTy L2.call_int1 FL.int_ok (by rfl) T.n_int FL.bt_int (FL.pax_cons (FL.px_var 0) FL.pax_nil)) (FL.px_var 1)) (FL.px_bin L2.op_sub FL.sub_ok (FL.px_var 1) (FL.px_var 2)))) FL.pax_nil)))))))
abbrev N__law_round_true : List Str := ["ds", "on", "many", "weights", "out", "k", "d", "low", "high", "whole"]
theorem sc__law_round_true : L2.FnScope N__law_round_true ["ds", "on", "many", "weights"] (L2.defScope s__law_round_true) := ⟨rfl, rfl, rfl, by decide +kernel, rfl, by decide +kernel, by decide +kernel⟩
def B__law_round_true_0 : SF := (sSeq (sSet 6 (eCall (un1 intD) [(eBin ixD (eVar 0) (eBin addD (eVar 1) (eVar 5)))])) (sSeq (sUnp [7, 8] (eCall F__law_tie [(eVar 6), (eCall (un1 lenD) [(eVar 3)])])) (sSeq (sSet 9 (eCall (un1 sumD) [(eSlice (eVar 3) (some (eVar 7)) (some (eVar 8)))])) (sApp 4 (eTup [(eVar 7), (eVar 8), (eBin subD (eVar 9) (eBin modD (eBin fdivD (eVar 6) (eC (.int 72))) (eC (.int 3)))), (eBin addD (eVar 9) (eBin modD (eBin fdivD (eVar 6) (eC (.int 216))) (eC (.int 4))))])))))
theorem B__law_round_true_0_w {ρ : FL.Env} {w : Wd} : B__law_round_true_0 ρ w = (sSeq (sSet 6 (eCall (un1 intD) [(eBin ixD (eVar 0) (eBin addD (eVar 1) (eVar 5)))])) (sSeq (sUnp [7, 8] (eCall F__law_tie [(eVar 6), (eCall (un1 lenD) [(eVar 3)])])) (sSeq (sSet 9 (eCall (un1 sumD) [(eSlice (eVar 3) (some (eVar 7)) (some (eVar 8)))])) (sApp 4 (eTup [(eVar 7), (eVar 8), (eBin subD (eVar 9) (eBin modD (eBin fdivD (eVar 6) (eC (.int 72))) (eC (.int 3)))), (eBin addD (eVar 9) (eBin modD (eBin fdivD (eVar 6) (eC (.int 216))) (eC (.int 4))))]))))) ρ w := rfl
def F__law_round_true : List D → M (List D) := callL 10 (sSeqL (sOwn 4 (evs [])) (sSeqL (sFor (iRng (eC (.int 0)) (eVar 2)) (gN 5) B__law_round_true_0) (sRetOwn 4)))
theorem has__law_round_true (T : Tx P K mg cm) (G__law_tie : FL.Has P w K mg base cm "_law_tie" 2 ["d", "count"] [[]] [] 2 F__law_tie) : FL.HasL P w K mg base cm "_law_round_true" 3 ["ds", "on", "many", "weights"] 4 F__law_round_true :=
  FL.hasL_of T.d__law_round_true sc__law_round_true rfl rfl (by decide) (fun _ _ _ _ _ _ us hl => match us, hl with | [_, _, _, _], _ => rfl) (fun f cdv A outer s H E q hr => by have tk : L2N.Takes (L2.cxOf (L2N.CX P w) P w K mg base N__law_round_true "_law_round_true" (L2.defScope s__law_round_true) f cdv A outer s H E) (fun cls d _ H' => E cls d H') := L2N.takes_of rfl rfl rfl rfl; have pa : PassesOwn (model P w) (L2.cxOf (L2N.CX P w) P w K mg base N__law_round_true "_law_round_true" (L2.defScope s__law_round_true) f cdv A outer s H E).A (L2.cxOf (L2N.CX P w) P w K mg base N__law_round_true "_law_round_true" (L2.defScope s__law_round_true) f cdv A outer s H E).env (L2.cxOf (L2N.CX P w) P w K mg base N__law_round_true "_law_round_true" (L2.defScope s__law_round_true) f cdv A outer s H E).xe := L2.passes_of rfl; exact (FL.psl_cons (FL.psx_own sc__law_round_true.nd (i := 4) rfl (by first | exact Or.inl rfl | exact Or.inr rfl) (FL.pnx_lst FL.pax_nil)) (FL.psl_cons (FL.psx_for pa rfl (FL.pix_range1 (by rfl) T.n_range (FL.px_var 2)) (L2.pg_name (i := 5) sc__law_round_true.nd rfl (by first | exact Or.inl rfl | exact Or.inr rfl)) (FL.tgx_n 5) (FL.pssx_cons (FL.psx_set sc__law_round_true.nd (i := 6) rfl (by first | exact Or.inl rfl | exact Or.inr rfl) (FL.px_callTy L2.call_int1 FL.int_ok (by rfl) T.n_int FL.bt_int (FL.pax_cons (FL.px_ix (FL.px_var 0) (FL.px_bin FL.op_addA FL.add_ok (FL.px_var 1) (FL.px_var 5))) FL.pax_nil))) (FL.pssx_cons (FL.psx_unp (is := [7, 8]) (FL.px_has G__law_tie (hr.mono (by decide)) tk (by rfl) (FL.pax_cons (FL.px_var 6) (FL.pax_cons (FL.px_callB L2.call_len FL.len_ok (by rfl) T.n_len FL.bt_len (FL.pax_cons (FL.px_var 3) FL.pax_nil)) FL.pax_nil))) (L2.pg_tup rfl (L2.pgs_cons (L2.pg_name (i := 7) sc__law_round_true.nd rfl (by first | exact Or.inl rfl | exact Or.inr rfl)) (L2.pgs_cons (L2.pg_name (i := 8) sc__law_round_true.nd rfl (by first | exact Or.inl rfl | exact Or.inr rfl)) L2.pgs_nil)))) (FL.pssx_cons (FL.psx_set sc__law_round_true.nd (i := 9) rfl (by first | exact Or.inl rfl | exact Or.inr rfl) (FL.px_callB (L2.cr_sum (by rfl)) FL.sum_ok (by rfl) T.n_sum FL.bt_sum (FL.pax_cons (FL.px_slice (FL.px_var 3) (FL.pox_some (FL.px_var 7)) (FL.pox_some (FL.px_var 8))) FL.pax_nil))) (FL.pssx_one (FL.psx_appE 4 (FL.px_tup (FL.pax_cons (FL.px_var 7) (FL.pax_cons (FL.px_var 8) (FL.pax_cons (FL.px_bin L2.op_sub FL.sub_ok (FL.px_var 9) (FL.px_bin L2.op_modN FL.mod_ok (FL.px_bin FL.op_fdivZ FL.fdiv_ok (FL.px_var 6) FL.px_int) FL.px_int)) (FL.pax_cons (FL.px_bin FL.op_addA FL.add_ok (FL.px_var 9) (FL.px_bin L2.op_modN FL.mod_ok (FL.px_bin FL.op_fdivZ FL.fdiv_ok (FL.px_var 6) FL.px_int) FL.px_int)) FL.pax_nil))))))))))) (FL.psl_ret 4))))
abbrev N__law_gcd : List Str := ["a", "b", "step"]
theorem sc__law_gcd : L2.FnScope N__law_gcd ["a", "b"] (L2.defScope s__law_gcd) := ⟨rfl, rfl, rfl, by decide +kernel, rfl, by decide +kernel, by decide +kernel⟩
def B__law_gcd_0 : SF := (sSeq (sIf (tVal (eBin eqD (eVar 1) (eC (.int 0)))) sBrk sNext) (sPar 0 1 (eVar 1) (eBin modD (eCall (un1 intD) [(eVar 0)]) (eVar 1))))
theorem B__law_gcd_0_w {ρ : FL.Env} {w : Wd} : B__law_gcd_0 ρ w = (sSeq (sIf (tVal (eBin eqD (eVar 1) (eC (.int 0)))) sBrk sNext) (sPar 0 1 (eVar 1) (eBin modD (eCall (un1 intD) [(eVar 0)]) (eVar 1)))) ρ w := rfl
def F__law_gcd : List D → M D := callF 3 (sSeq (sSet 0 (eCall (un1 absD) [(eVar 0)])) (sSeq (sSet 1 (eCall (un1 absD) [(eVar 1)])) (sSeq (sFor (iRng (eC (.int 0)) (eC (.int 4000))) (gN 2) B__law_gcd_0) (sRet (eVar 0)))))
theorem has__law_gcd (T : Tx P K mg cm)  : FL.Has P w K mg base cm "_law_gcd" 2 ["a", "b"] [[]] [] 2 F__law_gcd :=
  FL.has_of T.d__law_gcd sc__law_gcd rfl rfl (by decide) (fun _ _ _ _ _ _ us hl => match us, hl with | [_, _], _ => rfl) (fun f cdv A outer s H E q hr => by have tk : L2N.Takes (L2.cxOf (L2N.CX P w) P w K mg base N__law_gcd "_law_gcd" (L2.defScope s__law_gcd) f cdv A outer s H E) (fun cls d _ H' => E cls d H') := L2N.takes_of rfl rfl rfl rfl; have pa : PassesOwn (model P w) (L2.cxOf (L2N.CX P w) P w K mg base N__law_gcd "_law_gcd" (L2.defScope s__law_gcd) f cdv A outer s H E).A (L2.cxOf (L2N.CX P w) P w K mg base N__law_gcd "_law_gcd" (L2.defScope s__law_gcd) f cdv A outer s H E).env (L2.cxOf (L2N.CX P w) P w K mg base N__law_gcd "_law_gcd" (L2.defScope s__law_gcd) f cdv A outer s H E).xe := L2.passes_of rfl; exact (FL.pssx_cons (FL.psx_set sc__law_gcd.nd (i := 0) rfl (by first | exact Or.inl rfl | exact Or.inr rfl) (FL.px_callB L2.call_abs FL.abs_ok (by rfl) T.n_abs FL.bt_abs (FL.pax_cons (FL.px_var 0) FL.pax_nil))) (FL.pssx_cons (FL.psx_set sc__law_gcd.nd (i := 1) rfl (by first | exact Or.inl rfl | exact Or.inr rfl) (FL.px_callB L2.call_abs FL.abs_ok (by rfl) T.n_abs FL.bt_abs (FL.pax_cons (FL.px_var 1) FL.pax_nil))) (FL.pssx_cons (FL.psx_for pa rfl (FL.pix_range1 (by rfl) T.n_range FL.px_int) (L2.pg_name (i := 2) sc__law_gcd.nd rfl (by first | exact Or.inl rfl | exact Or.inr rfl)) (FL.tgx_n 2) (FL.pssx_cons (FL.psx_if (FL.ptx_cmp (L2.op_eqD (FL.hu64 hr)) FL.eq_ok (FL.px_var 1) FL.px_int (L2.nomark _)) (FL.pssx_one FL.psx_brk) FL.pssx_nil) (FL.pssx_one (FL.psx_par rfl sc__law_gcd.nd (i := 0) (j := 1) rfl rfl (by decide) rfl rfl (FL.pax_cons (FL.px_var 1) (FL.pax_cons (FL.px_bin L2.op_modN FL.mod_ok (FL.px_callTy L2.call_int1 FL.int_ok (by rfl) T.n_int FL.bt_int (FL.pax_cons (FL.px_var 0) FL.pax_nil)) (FL.px_var 1)) FL.pax_nil)) (by rfl))))) (FL.pssx_one (FL.psx_ret (FL.px_var 0)))))))
abbrev N__law_ratio : List Str := ["top", "bottom", "part"]
theorem sc__law_ratio : L2.FnScope N__law_ratio ["top", "bottom"] (L2.defScope s__law_ratio) := ⟨rfl, rfl, rfl, by decide +kernel, rfl, by decide +kernel, by decide +kernel⟩
def F__law_ratio : List D → M D := callF 3 (sSeq (sIf (tVal (eBin ltD (eVar 1) (eC (.int 0)))) (sSeq (sSet 0 (eUn negD (eVar 0))) (sSet 1 (eUn negD (eVar 1)))) sNext) (sSeq (sSet 2 (eCall F__law_gcd [(eVar 0), (eVar 1)])) (sRet (eTup [(eBin fdivD (eVar 0) (eVar 2)), (eBin fdivD (eVar 1) (eVar 2))]))))
theorem has__law_ratio (T : Tx P K mg cm) (G__law_gcd : FL.Has P w K mg base cm "_law_gcd" 2 ["a", "b"] [[]] [] 2 F__law_gcd) : FL.Has P w K mg base cm "_law_ratio" 3 ["top", "bottom"] [[]] [] 2 F__law_ratio :=
  FL.has_of T.d__law_ratio sc__law_ratio rfl rfl (by decide) (fun _ _ _ _ _ _ us hl => match us, hl with | [_, _], _ => rfl) (fun f cdv A outer s H E q hr => by have tk : L2N.Takes (L2.cxOf (L2N.CX P w) P w K mg base N__law_ratio "_law_ratio" (L2.defScope s__law_ratio) f cdv A outer s H E) (fun cls d _ H' => E cls d H') := L2N.takes_of rfl rfl rfl rfl; have pa : PassesOwn (model P w) (L2.cxOf (L2N.CX P w) P w K mg base N__law_ratio "_law_ratio" (L2.defScope s__law_ratio) f cdv A outer s H E).A (L2.cxOf (L2N.CX P w) P w K mg base N__law_ratio "_law_ratio" (L2.defScope s__law_ratio) f cdv A outer s H E).env (L2.cxOf (L2N.CX P w) P w K mg base N__law_ratio "_law_ratio" (L2.defScope s__law_ratio) f cdv A outer s H E).xe := L2.passes_of rfl; exact (FL.pssx_cons (FL.psx_if (FL.ptx_cmp L2.op_lt FL.lt_ok (FL.px_var 1) FL.px_int (L2.nomark _)) (FL.pssx_cons (FL.psx_set sc__law_ratio.nd (i := 0) rfl (by first | exact Or.inl rfl | exact Or.inr rfl) (FL.px_un L2.un_neg FL.neg_ok (FL.px_var 0))) (FL.pssx_one (FL.psx_set sc__law_ratio.nd (i := 1) rfl (by first | exact Or.inl rfl | exact Or.inr rfl) (FL.px_un L2.un_neg FL.neg_ok (FL.px_var 1))))) FL.pssx_nil) (FL.pssx_cons (FL.psx_set sc__law_ratio.nd (i := 2) rfl (by first | exact Or.inl rfl | exact Or.inr rfl) (FL.px_has G__law_gcd (hr.mono (by decide)) tk (by rfl) (FL.pax_cons (FL.px_var 0) (FL.pax_cons (FL.px_var 1) FL.pax_nil)))) (FL.pssx_one (FL.psx_ret (FL.px_tup (FL.pax_cons (FL.px_bin FL.op_fdivZ FL.fdiv_ok (FL.px_var 0) (FL.px_var 2)) (FL.pax_cons (FL.px_bin FL.op_fdivZ FL.fdiv_ok (FL.px_var 1) (FL.px_var 2)) FL.pax_nil))))))))
abbrev N__law_told : List Str := ["rows", "bottom", "row"]
theorem sc__law_told : L2.FnScope N__law_told ["rows", "bottom"] (L2.defScope s__law_told) := ⟨rfl, rfl, rfl, by decide +kernel, rfl, by decide +kernel, by decide +kernel⟩
def F__law_told : List D → M D := callF 3 (sRet (eNew (nLc (iSeq (eVar 0)) [2] (gN 2) tYes (eTup [(eBin ixD (eVar 2) (eC (.int 0))), (eBin ixD (eVar 2) (eC (.int 1))), (eCall F__law_ratio [(eBin ixD (eVar 2) (eC (.int 2))), (eVar 1)]), (eCall F__law_ratio [(eBin ixD (eVar 2) (eC (.int 3))), (eVar 1)])]))))
theorem has__law_told (T : Tx P K mg cm) (G__law_ratio : FL.Has P w K mg base cm "_law_ratio" 3 ["top", "bottom"] [[]] [] 2 F__law_ratio) : FL.Has P w K mg base cm "_law_told" 4 ["rows", "bottom"] [[]] [] 2 F__law_told :=
  FL.has_of T.d__law_told sc__law_told rfl rfl (by decide) (fun _ _ _ _ _ _ us hl => match us, hl with | [_, _], _ => rfl) (fun f cdv A outer s H E q hr => by have tk : L2N.Takes (L2.cxOf (L2N.CX P w) P w K mg base N__law_told "_law_told" (L2.defScope s__law_told) f cdv A outer s H E) (fun cls d _ H' => E cls d H') := L2N.takes_of rfl rfl rfl rfl; have pa : PassesOwn (model P w) (L2.cxOf (L2N.CX P w) P w K mg base N__law_told "_law_told" (L2.defScope s__law_told) f cdv A outer s H E).A (L2.cxOf (L2N.CX P w) P w K mg base N__law_told "_law_told" (L2.defScope s__law_told) f cdv A outer s H E).env (L2.cxOf (L2N.CX P w) P w K mg base N__law_told "_law_told" (L2.defScope s__law_told) f cdv A outer s H E).xe := L2.passes_of rfl; exact (FL.pssx_one (FL.psx_ret (FL.px_new (FL.pnx_lcE (own := [("row", 2)]) rfl sc__law_told.nd (FL.pix_any (FL.px_var 0)) (L2.blkOk_by (N := N__law_told) (sc := L2.defScope s__law_told) (by decide +kernel)) rfl (fun _ _ _ _ _ => (L2.pg_name (i := 2) sc__law_told.nd rfl (by first | exact Or.inl rfl | exact Or.inr rfl))) (FL.tgx_n 2) (fun _ _ _ _ _ => FL.ptsx0) (fun _ _ _ _ _ => (FL.px_tup (FL.pax_cons (FL.px_ix (FL.px_var 2) FL.px_int) (FL.pax_cons (FL.px_ix (FL.px_var 2) FL.px_int) (FL.pax_cons (FL.px_has G__law_ratio (hr.mono (by decide)) FL.takes0N (by rfl) (FL.pax_cons (FL.px_ix (FL.px_var 2) FL.px_int) (FL.pax_cons (FL.px_var 1) FL.pax_nil))) (FL.pax_cons (FL.px_has G__law_ratio (hr.mono (by decide)) FL.takes0N (by rfl) (FL.pax_cons (FL.px_ix (FL.px_var 2) FL.px_int) (FL.pax_cons (FL.px_var 1) FL.pax_nil))) FL.pax_nil)))))))))))
abbrev N__law_table : List Str := ["count", "rows", "table", "links", "begin", "end", "extra", "line", "by", "a", "b", "onward", "row", "axle"]
theorem sc__law_table : L2.FnScope N__law_table ["count", "rows"] (L2.defScope s__law_table) := ⟨rfl, rfl, rfl, by decide +kernel, rfl, by decide +kernel, by decide +kernel⟩
def B__law_table_0 : SF := (sAli 2 7 (eVar 4) fun m => (sIf (tOr (tVal (eBin isNonD (eBin ixD (eVar 7) (eVar 5)) (eC .non))) (tVal (eBin ltD (eVar 6) (eBin ixD (eVar 7) (eVar 5))))) (sPutA 2 7 m (eVar 5) (eVar 6)) sNext))
theorem B__law_table_0_w {ρ : FL.Env} {w : Wd} : B__law_table_0 ρ w = (sAli 2 7 (eVar 4) fun m => (sIf (tOr (tVal (eBin isNonD (eBin ixD (eVar 7) (eVar 5)) (eC .non))) (tVal (eBin ltD (eVar 6) (eBin ixD (eVar 7) (eVar 5))))) (sPutA 2 7 m (eVar 5) (eVar 6)) sNext)) ρ w := rfl
def B__law_table_1 (m : Nat) : SF := (sSeq (sSet 11 (eBin ixD (eBin ixD (eVar 2) (eVar 8)) (eVar 10))) (sIf (tAnd (tVal (eBin notNonD (eVar 11) (eC .non))) (tOr (tVal (eBin isNonD (eBin ixD (eVar 7) (eVar 10)) (eC .non))) (tVal (eBin ltD (eBin addD (eBin ixD (eVar 7) (eVar 8)) (eVar 11)) (eBin ixD (eVar 7) (eVar 10)))))) (sPutA 2 7 m (eVar 10) (eBin addD (eBin ixD (eVar 7) (eVar 8)) (eVar 11))) sNext))
theorem B__law_table_1_w {m : Nat} {ρ : FL.Env} {w : Wd} : B__law_table_1 m ρ w = (sSeq (sSet 11 (eBin ixD (eBin ixD (eVar 2) (eVar 8)) (eVar 10))) (sIf (tAnd (tVal (eBin notNonD (eVar 11) (eC .non))) (tOr (tVal (eBin isNonD (eBin ixD (eVar 7) (eVar 10)) (eC .non))) (tVal (eBin ltD (eBin addD (eBin ixD (eVar 7) (eVar 8)) (eVar 11)) (eBin ixD (eVar 7) (eVar 10)))))) (sPutA 2 7 m (eVar 10) (eBin addD (eBin ixD (eVar 7) (eVar 8)) (eVar 11))) sNext)) ρ w := rfl
def B__law_table_2 : SF := (sAli 2 7 (eVar 9) fun m => (sSeq (sIf (tVal (eBin isNonD (eBin ixD (eVar 7) (eVar 8)) (eC .non))) sCnt sNext) (sFor (iRng (eC (.int 0)) (eBin addD (eVar 0) (eC (.int 1)))) (gN 10) (B__law_table_1 m))))
theorem B__law_table_2_w {ρ : FL.Env} {w : Wd} : B__law_table_2 ρ w = (sAli 2 7 (eVar 9) fun m => (sSeq (sIf (tVal (eBin isNonD (eBin ixD (eVar 7) (eVar 8)) (eC .non))) sCnt sNext) (sFor (iRng (eC (.int 0)) (eBin addD (eVar 0) (eC (.int 1)))) (gN 10) (B__law_table_1 m)))) ρ w := rfl
def B__law_table_3 : SF := (sFor (iRng (eC (.int 0)) (eBin addD (eVar 0) (eC (.int 1)))) (gN 9) B__law_table_2)
theorem B__law_table_3_w {ρ : FL.Env} {w : Wd} : B__law_table_3 ρ w = (sFor (iRng (eC (.int 0)) (eBin addD (eVar 0) (eC (.int 1)))) (gN 9) B__law_table_2) ρ w := rfl
def F__law_table : List D → M D := callF 14 (sSeq (sNest 2 (nLc (iRng (eC (.int 0)) (eBin addD (eVar 0) (eC (.int 1)))) [9] (gN 9) tYes (eNew (nLc (iRng (eC (.int 0)) (eBin addD (eVar 0) (eC (.int 1)))) [10] (gN 10) tYes (eIf (tVal (eBin eqD (eVar 9) (eVar 10))) (eC (.int 0)) (eC .non)))))) (sSeq (sSet 3 (eBin addD (eNew (nLc (iSeq (eVar 1)) [12] (gN 12) tYes (eTup [(eBin ixD (eVar 12) (eC (.int 0))), (eBin ixD (eVar 12) (eC (.int 1))), (eBin ixD (eVar 12) (eC (.int 3)))]))) (eNew (nLc (iSeq (eVar 1)) [12] (gN 12) tYes (eTup [(eBin ixD (eVar 12) (eC (.int 1))), (eBin ixD (eVar 12) (eC (.int 0))), (eUn negD (eBin ixD (eVar 12) (eC (.int 2))))]))))) (sSeq (sSet 3 (eBin addD (eVar 3) (eNew (nLc (iRng (eC (.int 0)) (eVar 0)) [13] (gN 13) tYes (eTup [(eBin addD (eVar 13) (eC (.int 1))), (eVar 13), (eC (.int 0))]))))) (sSeq (sForL (eVar 3) (gT [4, 5, 6]) B__law_table_0) (sSeq (sFor (iRng (eC (.int 0)) (eBin addD (eVar 0) (eC (.int 1)))) (gN 8) B__law_table_3) (sRet (eVar 2)))))))
theorem has__law_table (T : Tx P K mg cm)  : FL.Has P w K mg base cm "_law_table" 2 ["count", "rows"] [[]] [] 2 F__law_table :=
  FL.has_ofY T.d__law_table sc__law_table rfl rfl (by decide) (fun _ _ _ _ _ _ us hl => match us, hl with | [_, _], _ => rfl) (fun f cdv A outer s H E q hr => by have tk : L2N.Takes (L2.cxOf (L2N.CX P w) P w K mg base N__law_table "_law_table" (L2.defScope s__law_table) f cdv A outer s H E) (fun cls d _ H' => E cls d H') := L2N.takes_of rfl rfl rfl rfl; have pa : PassesOwn (model P w) (L2.cxOf (L2N.CX P w) P w K mg base N__law_table "_law_table" (L2.defScope s__law_table) f cdv A outer s H E).A (L2.cxOf (L2N.CX P w) P w K mg base N__law_table "_law_table" (L2.defScope s__law_table) f cdv A outer s H E).env (L2.cxOf (L2N.CX P w) P w K mg base N__law_table "_law_table" (L2.defScope s__law_table) f cdv A outer s H E).xe := L2.passes_of rfl; exact (FL.pssy_cons (FL.psy_lift (FL.psx_nestLc (i := 2) (own := [("a", 9)]) rfl sc__law_table.nd rfl rfl (L2.sw_true rfl rfl rfl (by decide +kernel)) (FL.pix_range1 (by rfl) T.n_range (FL.px_bin FL.op_addA FL.add_ok (FL.px_var 0) FL.px_int)) (L2.blkOk_by (N := N__law_table) (sc := L2.defScope s__law_table) (by decide +kernel)) rfl (fun _ _ _ _ _ => (L2.pg_name (i := 9) sc__law_table.nd rfl (by first | exact Or.inl rfl | exact Or.inr rfl))) (FL.tgx_n 9) (fun _ _ _ _ _ => FL.ptsx0) (fun _ _ _ _ _ => (FL.pnx_lcE (own := [("b", 10)]) rfl sc__law_table.nd (FL.pix_range1 (by rfl) T.n_range (FL.px_bin FL.op_addA FL.add_ok (FL.px_var 0) FL.px_int)) (L2.blkOk_by (N := N__law_table) (by kernel_rfl)) rfl (fun _ _ _ _ _ => (L2.pg_name (i := 10) sc__law_table.nd rfl (by first | exact Or.inl rfl | exact Or.inr rfl))) (FL.tgx_n 10) (fun _ _ _ _ _ => FL.ptsx0) (fun _ _ _ _ _ => (FL.px_if (FL.ptx_cmp (L2.op_eqD (FL.hu64 hr)) FL.eq_ok (FL.px_var 9) (FL.px_var 10) (L2.nomark _)) FL.px_int FL.px_non)))))) (FL.pssy_cons (FL.psy_lift (FL.psx_set sc__law_table.nd (i := 3) rfl (by first | exact Or.inl rfl | exact Or.inr rfl) (FL.px_bin FL.op_addA FL.add_ok (FL.px_new (FL.pnx_lcE (own := [("row", 12)]) rfl sc__law_table.nd (FL.pix_any (FL.px_var 1)) (L2.blkOk_by (N := N__law_table) (sc := L2.defScope s__law_table) (by decide +kernel)) rfl (fun _ _ _ _ _ => (L2.pg_name (i := 12) sc__law_table.nd rfl (by first | exact Or.inl rfl | exact Or.inr rfl))) (FL.tgx_n 12) (fun _ _ _ _ _ => FL.ptsx0) (fun _ _ _ _ _ => (FL.px_tup (FL.pax_cons (FL.px_ix (FL.px_var 12) FL.px_int) (FL.pax_cons (FL.px_ix (FL.px_var 12) FL.px_int) (FL.pax_cons (FL.px_ix (FL.px_var 12) FL.px_int) FL.pax_nil))))))) (FL.px_new (FL.pnx_lcE (own := [("row", 12)]) rfl sc__law_table.nd (FL.pix_any (FL.px_var 1)) (L2.blkOk_by (N := N__law_table) (sc := L2.defScope s__law_table) (by decide +kernel)) rfl (fun _ _ _ _ _ => (L2.pg_name (i := 12) sc__law_table.nd rfl (by first | exact Or.inl rfl | exact Or.inr rfl))) (FL.tgx_n 12) (fun _ _ _ _ _ => FL.ptsx0) (fun _ _ _ _ _ => (FL.px_tup (FL.pax_cons (FL.px_ix (FL.px_var 12) FL.px_int) (FL.pax_cons (FL.px_ix (FL.px_var 12) FL.px_int) (FL.pax_cons (FL.px_un L2.un_neg FL.neg_ok (FL.px_ix (FL.px_var 12) FL.px_int)) FL.pax_nil)))))))))) (FL.pssy_cons (FL.psy_lift (FL.psx_set sc__law_table.nd (i := 3) rfl (by first | exact Or.inl rfl | exact Or.inr rfl) (FL.px_bin FL.op_addA FL.add_ok (FL.px_var 3) (FL.px_new (FL.pnx_lcE (own := [("axle", 13)]) rfl sc__law_table.nd (FL.pix_range1 (by rfl) T.n_range (FL.px_var 0)) (L2.blkOk_by (N := N__law_table) (sc := L2.defScope s__law_table) (by decide +kernel)) rfl (fun _ _ _ _ _ => (L2.pg_name (i := 13) sc__law_table.nd rfl (by first | exact Or.inl rfl | exact Or.inr rfl))) (FL.tgx_n 13) (fun _ _ _ _ _ => FL.ptsx0) (fun _ _ _ _ _ => (FL.px_tup (FL.pax_cons (FL.px_bin FL.op_addA FL.add_ok (FL.px_var 13) FL.px_int) (FL.pax_cons (FL.px_var 13) (FL.pax_cons FL.px_int FL.pax_nil)))))))))) (FL.pssy_cons (FL.psy_forL pa rfl (FL.px_var 3) (L2.pg_tup rfl (L2.pgs_cons (L2.pg_name (i := 4) sc__law_table.nd rfl (by first | exact Or.inl rfl | exact Or.inr rfl)) (L2.pgs_cons (L2.pg_name (i := 5) sc__law_table.nd rfl (by first | exact Or.inl rfl | exact Or.inr rfl)) (L2.pgs_cons (L2.pg_name (i := 6) sc__law_table.nd rfl (by first | exact Or.inl rfl | exact Or.inr rfl)) L2.pgs_nil)))) (FL.tgx_t [4, 5, 6]) (fun q => (FL.pssy_ali (it := 2) (il := 7) (by decide) sc__law_table.nd rfl (by first | exact Or.inl rfl | exact Or.inr rfl) (L2.pe_ix L2.ix_seq (L2.pe_var (i := 2) rfl (by first | exact Or.inl rfl | exact Or.inr (Or.inl rfl) | exact Or.inr (Or.inr rfl))) (FL.px_var 4) (by exact fun _ _ => rfl)) (fun m => (FL.pssa_one (FL.psa_if (FL.PWX.pt (FL.pwx_or (FL.ptx_cmp L2.op_isN FL.isNon_ok (FL.px_ix (FL.px_var 7) (FL.px_var 5)) FL.px_non (L2.nomark _)) (FL.pwx_or1 (FL.ptx_cmp L2.op_lt FL.lt_ok (FL.px_var 6) (FL.px_ix (FL.px_var 7) (FL.px_var 5)) (L2.nomark _))))) (FL.pssa_one (FL.psa_put (by decide) (FL.px_var 6) (L2.pg_sub (L2.pe_var (i := 7) rfl (by first | exact Or.inl rfl | exact Or.inr (Or.inl rfl) | exact Or.inr (Or.inr rfl))) (FL.px_var 5) (FL.pset_dis L2.set_list)))) FL.pssa_nil)))))) (FL.pssy_cons (FL.psy_for pa rfl (FL.pirx_range1 (by rfl) T.n_range (FL.px_bin FL.op_addA FL.add_ok (FL.px_var 0) FL.px_int)) (L2.pg_name (i := 8) sc__law_table.nd rfl (by first | exact Or.inl rfl | exact Or.inr rfl)) (FL.tgx_n 8) (FL.pssy_one (FL.psy_for pa rfl (FL.pirx_range1 (by rfl) T.n_range (FL.px_bin FL.op_addA FL.add_ok (FL.px_var 0) FL.px_int)) (L2.pg_name (i := 9) sc__law_table.nd rfl (by first | exact Or.inl rfl | exact Or.inr rfl)) (FL.tgx_n 9) (FL.pssy_ali (it := 2) (il := 7) (by decide) sc__law_table.nd rfl (by first | exact Or.inl rfl | exact Or.inr rfl) (L2.pe_ix L2.ix_seq (L2.pe_var (i := 2) rfl (by first | exact Or.inl rfl | exact Or.inr (Or.inl rfl) | exact Or.inr (Or.inr rfl))) (FL.px_var 9) (by exact fun _ _ => rfl)) (fun m => (FL.pssa_cons (FL.psa_if (FL.ptx_cmp L2.op_isN FL.isNon_ok (FL.px_ix (FL.px_var 7) (FL.px_var 8)) FL.px_non (L2.nomark _)) (FL.pssa_one FL.psa_cnt) FL.pssa_nil) (FL.pssa_one (FL.psa_for (by decide) pa rfl (FL.pirx_range1 (by rfl) T.n_range (FL.px_bin FL.op_addA FL.add_ok (FL.px_var 0) FL.px_int)) (L2.pg_name (i := 10) sc__law_table.nd rfl (by first | exact Or.inl rfl | exact Or.inr rfl)) (FL.tgx_n 10) (FL.pssa_cons (FL.psa_set (i := 11) (by decide) (by decide) sc__law_table.nd rfl (by first | exact Or.inl rfl | exact Or.inr rfl) (FL.px_ix (FL.px_ix (FL.px_var 2) (FL.px_var 8)) (FL.px_var 10))) (FL.pssa_one (FL.psa_if (FL.PWX.pt (FL.pwx_and (FL.ptx_cmp L2.op_notN FL.notNon_ok (FL.px_var 11) FL.px_non (L2.nomark _)) (FL.pwx_and1 (FL.PWX.pt (FL.pwx_or (FL.ptx_cmp L2.op_isN FL.isNon_ok (FL.px_ix (FL.px_var 7) (FL.px_var 10)) FL.px_non (L2.nomark _)) (FL.pwx_or1 (FL.ptx_cmp L2.op_lt FL.lt_ok (FL.px_bin FL.op_addA FL.add_ok (FL.px_ix (FL.px_var 7) (FL.px_var 8)) (FL.px_var 11)) (FL.px_ix (FL.px_var 7) (FL.px_var 10)) (L2.nomark _)))))))) (FL.pssa_one (FL.psa_put (by decide) (FL.px_bin FL.op_addA FL.add_ok (FL.px_ix (FL.px_var 7) (FL.px_var 8)) (FL.px_var 11)) (L2.pg_sub (L2.pe_var (i := 7) rfl (by first | exact Or.inl rfl | exact Or.inr (Or.inl rfl) | exact Or.inr (Or.inr rfl))) (FL.px_var 10) (FL.pset_dis L2.set_list)))) FL.pssa_nil))))))))))) (FL.pssy_one (FL.psy_lift (FL.psx_ret (FL.px_var 2))))))))))
abbrev N__law_widest : List Str := ["table", "ties", "best", "k", "low", "high", "width"]
theorem sc__law_widest : L2.FnScope N__law_widest ["table", "ties"] (L2.defScope s__law_widest) := ⟨rfl, rfl, rfl, by decide +kernel, rfl, by decide +kernel, by decide +kernel⟩
def B__law_widest_0 : SF := (sSeq (sUnp [4, 5] (eBin ixD (eVar 1) (eVar 3))) (sSeq (sIf (tVal (eBin isNonD (eBin ixD (eBin ixD (eVar 0) (eVar 4)) (eVar 5)) (eC .non))) (sRet (eTup [(eVar 3), (eC .non)])) sNext) (sSeq (sSet 6 (eBin addD (eBin ixD (eBin ixD (eVar 0) (eVar 4)) (eVar 5)) (eBin ixD (eBin ixD (eVar 0) (eVar 5)) (eVar 4)))) (sIf (tOr (tVal (eBin isNonD (eVar 2) (eC .non))) (tVal (eBin gtD (eVar 6) (eBin ixD (eVar 2) (eC (.int 1)))))) (sSet 2 (eTup [(eVar 3), (eVar 6)])) sNext))))
theorem B__law_widest_0_w {ρ : FL.Env} {w : Wd} : B__law_widest_0 ρ w = (sSeq (sUnp [4, 5] (eBin ixD (eVar 1) (eVar 3))) (sSeq (sIf (tVal (eBin isNonD (eBin ixD (eBin ixD (eVar 0) (eVar 4)) (eVar 5)) (eC .non))) (sRet (eTup [(eVar 3), (eC .non)])) sNext) (sSeq (sSet 6 (eBin addD (eBin ixD (eBin ixD (eVar 0) (eVar 4)) (eVar 5)) (eBin ixD (eBin ixD (eVar 0) (eVar 5)) (eVar 4)))) (sIf (tOr (tVal (eBin isNonD (eVar 2) (eC .non))) (tVal (eBin gtD (eVar 6) (eBin ixD (eVar 2) (eC (.int 1)))))) (sSet 2 (eTup [(eVar 3), (eVar 6)])) sNext)))) ρ w := rfl
def F__law_widest : List D → M D := callF 7 (sSeq (sSet 2 (eC .non)) (sSeq (sFor (iRng (eC (.int 0)) (eCall (un1 lenD) [(eVar 1)])) (gN 3) B__law_widest_0) (sRet (eVar 2))))
theorem has__law_widest (T : Tx P K mg cm)  : FL.Has P w K mg base cm "_law_widest" 2 ["table", "ties"] [[]] [] 2 F__law_widest :=
  FL.has_of T.d__law_widest sc__law_widest rfl rfl (by decide) (fun _ _ _ _ _ _ us hl => match us, hl with | [_, _], _ => rfl) (fun f cdv A outer s H E q hr => by have tk : L2N.Takes (L2.cxOf (L2N.CX P w) P w K mg base N__law_widest "_law_widest" (L2.defScope s__law_widest) f cdv A outer s H E) (fun cls d _ H' => E cls d H') := L2N.takes_of rfl rfl rfl rfl; have pa : PassesOwn (model P w) (L2.cxOf (L2N.CX P w) P w K mg base N__law_widest "_law_widest" (L2.defScope s__law_widest) f cdv A outer s H E).A (L2.cxOf (L2N.CX P w) P w K mg base N__law_widest "_law_widest" (L2.defScope s__law_widest) f cdv A outer s H E).env (L2.cxOf (L2N.CX P w) P w K mg base N__law_widest "_law_widest" (L2.defScope s__law_widest) f cdv A outer s H E).xe := L2.passes_of rfl; exact (FL.pssx_cons (FL.psx_set sc__law_widest.nd (i := 2) rfl (by first | exact Or.inl rfl | exact Or.inr rfl) FL.px_non) (FL.pssx_cons (FL.psx_for pa rfl (FL.pix_range1 (by rfl) T.n_range (FL.px_callB L2.call_len FL.len_ok (by rfl) T.n_len FL.bt_len (FL.pax_cons (FL.px_var 1) FL.pax_nil))) (L2.pg_name (i := 3) sc__law_widest.nd rfl (by first | exact Or.inl rfl | exact Or.inr rfl)) (FL.tgx_n 3) (FL.pssx_cons (FL.psx_unp (is := [4, 5]) (FL.px_ix (FL.px_var 1) (FL.px_var 3)) (L2.pg_tup rfl (L2.pgs_cons (L2.pg_name (i := 4) sc__law_widest.nd rfl (by first | exact Or.inl rfl | exact Or.inr rfl)) (L2.pgs_cons (L2.pg_name (i := 5) sc__law_widest.nd rfl (by first | exact Or.inl rfl | exact Or.inr rfl)) L2.pgs_nil)))) (FL.pssx_cons (FL.psx_if (FL.ptx_cmp L2.op_isN FL.isNon_ok (FL.px_ix (FL.px_ix (FL.px_var 0) (FL.px_var 4)) (FL.px_var 5)) FL.px_non (L2.nomark _)) (FL.pssx_one (FL.psx_ret (FL.px_tup (FL.pax_cons (FL.px_var 3) (FL.pax_cons FL.px_non FL.pax_nil))))) FL.pssx_nil) (FL.pssx_cons (FL.psx_set sc__law_widest.nd (i := 6) rfl (by first | exact Or.inl rfl | exact Or.inr rfl) (FL.px_bin FL.op_addA FL.add_ok (FL.px_ix (FL.px_ix (FL.px_var 0) (FL.px_var 4)) (FL.px_var 5)) (FL.px_ix (FL.px_ix (FL.px_var 0) (FL.px_var 5)) (FL.px_var 4)))) (FL.pssx_one (FL.psx_if (FL.PWX.pt (FL.pwx_or (FL.ptx_cmp L2.op_isN FL.isNon_ok (FL.px_var 2) FL.px_non (L2.nomark _)) (FL.pwx_or1 (FL.ptx_cmp L2.op_gt FL.gt_ok (FL.px_var 6) (FL.px_ix (FL.px_var 2) FL.px_int) (L2.nomark _))))) (FL.pssx_one (FL.psx_set sc__law_widest.nd (i := 2) rfl (by first | exact Or.inl rfl | exact Or.inr rfl) (FL.px_tup (FL.pax_cons (FL.px_var 3) (FL.pax_cons (FL.px_var 6) FL.pax_nil))))) FL.pssx_nil)))))) (FL.pssx_one (FL.psx_ret (FL.px_var 2))))))
abbrev N__law_cell : List Str := ["script", "at"]
theorem sc__law_cell : L2.FnScope N__law_cell ["script", "at"] (L2.defScope s__law_cell) := ⟨rfl, rfl, rfl, by decide +kernel, rfl, by decide +kernel, by decide +kernel⟩
def F__law_cell : List D → M D := callF 2 (sRet (eIf (tVal (eBin ltD (eVar 1) (eCall (un1 lenD) [(eVar 0)]))) (eCall (un1 intD) [(eBin ixD (eVar 0) (eVar 1))]) (eBin addD (eBin mulD (eC (.int 1000003)) (eVar 1)) (eC (.int 7)))))
theorem has__law_cell (T : Tx P K mg cm)  : FL.Has P w K mg base cm "_law_cell" 2 ["script", "at"] [[]] [] 2 F__law_cell :=
  FL.has_of T.d__law_cell sc__law_cell rfl rfl (by decide) (fun _ _ _ _ _ _ us hl => match us, hl with | [_, _], _ => rfl) (fun f cdv A outer s H E q hr => by have tk : L2N.Takes (L2.cxOf (L2N.CX P w) P w K mg base N__law_cell "_law_cell" (L2.defScope s__law_cell) f cdv A outer s H E) (fun cls d _ H' => E cls d H') := L2N.takes_of rfl rfl rfl rfl; have pa : PassesOwn (model P w) (L2.cxOf (L2N.CX P w) P w K mg base N__law_cell "_law_cell" (L2.defScope s__law_cell) f cdv A outer s H E).A (L2.cxOf (L2N.CX P w) P w K mg base N__law_cell "_law_cell" (L2.defScope s__law_cell) f cdv A outer s H E).env (L2.cxOf (L2N.CX P w) P w K mg base N__law_cell "_law_cell" (L2.defScope s__law_cell) f cdv A outer s H E).xe := L2.passes_of rfl; exact (FL.pssx_one (FL.psx_ret (FL.px_if (FL.ptx_cmp L2.op_lt FL.lt_ok (FL.px_var 1) (FL.px_callB L2.call_len FL.len_ok (by rfl) T.n_len FL.bt_len (FL.pax_cons (FL.px_var 0) FL.pax_nil)) (L2.nomark _)) (FL.px_callTy L2.call_int1 FL.int_ok (by rfl) T.n_int FL.bt_int (FL.pax_cons (FL.px_ix (FL.px_var 0) (FL.px_var 1)) FL.pax_nil)) (FL.px_bin FL.op_addA FL.add_ok (FL.px_bin FL.op_mulB FL.mul_ok FL.px_int (FL.px_var 1)) FL.px_int)))))
abbrev N__law_weights : List Str := ["ds", "on", "count", "k"]
theorem sc__law_weights : L2.FnScope N__law_weights ["ds", "on", "count"] (L2.defScope s__law_weights) := ⟨rfl, rfl, rfl, by decide +kernel, rfl, by decide +kernel, by decide +kernel⟩
def F__law_weights : List D → M D := callF 4 (sRet (eNew (nLc (iRng (eC (.int 0)) (eVar 2)) [3] (gN 3) tYes (eBin mulD (eBin modD (eCall (un1 intD) [(eBin ixD (eVar 0) (eBin addD (eVar 1) (eVar 3)))]) (eC (.int 4))) (eBin modD (eBin fdivD (eCall (un1 intD) [(eBin ixD (eVar 0) (eBin addD (eVar 1) (eVar 3)))]) (eC (.int 4))) (eC (.int 7)))))))
theorem has__law_weights (T : Tx P K mg cm)  : FL.Has P w K mg base cm "_law_weights" 2 ["ds", "on", "count"] [[]] [] 3 F__law_weights :=
  FL.has_of T.d__law_weights sc__law_weights rfl rfl (by decide) (fun _ _ _ _ _ _ us hl => match us, hl with | [_, _, _], _ => rfl) (fun f cdv A outer s H E q hr => by have tk : L2N.Takes (L2.cxOf (L2N.CX P w) P w K mg base N__law_weights "_law_weights" (L2.defScope s__law_weights) f cdv A outer s H E) (fun cls d _ H' => E cls d H') := L2N.takes_of rfl rfl rfl rfl; have pa : PassesOwn (model P w) (L2.cxOf (L2N.CX P w) P w K mg base N__law_weights "_law_weights" (L2.defScope s__law_weights) f cdv A outer s H E).A (L2.cxOf (L2N.CX P w) P w K mg base N__law_weights "_law_weights" (L2.defScope s__law_weights) f cdv A outer s H E).env (L2.cxOf (L2N.CX P w) P w K mg base N__law_weights "_law_weights" (L2.defScope s__law_weights) f cdv A outer s H E).xe := L2.passes_of rfl; exact (FL.pssx_one (FL.psx_ret (FL.px_new (FL.pnx_lcE (own := [("k", 3)]) rfl sc__law_weights.nd (FL.pix_range1 (by rfl) T.n_range (FL.px_var 2)) (L2.blkOk_by (N := N__law_weights) (sc := L2.defScope s__law_weights) (by decide +kernel)) rfl (fun _ _ _ _ _ => (L2.pg_name (i := 3) sc__law_weights.nd rfl (by first | exact Or.inl rfl | exact Or.inr rfl))) (FL.tgx_n 3) (fun _ _ _ _ _ => FL.ptsx0) (fun _ _ _ _ _ => (FL.px_bin FL.op_mulB FL.mul_ok (FL.px_bin L2.op_modN FL.mod_ok (FL.px_callTy L2.call_int1 FL.int_ok (by rfl) T.n_int FL.bt_int (FL.pax_cons (FL.px_ix (FL.px_var 0) (FL.px_bin FL.op_addA FL.add_ok (FL.px_var 1) (FL.px_var 3))) FL.pax_nil)) FL.px_int) (FL.px_bin L2.op_modN FL.mod_ok (FL.px_bin FL.op_fdivZ FL.fdiv_ok (FL.px_callTy L2.call_int1 FL.int_ok (by rfl) T.n_int FL.bt_int (FL.pax_cons (FL.px_ix (FL.px_var 0) (FL.px_bin FL.op_addA FL.add_ok (FL.px_var 1) (FL.px_var 3))) FL.pax_nil)) FL.px_int) FL.px_int))))))))
abbrev N__law_verdict : List Str := ["least", "most", "limit"]
theorem sc__law_verdict : L2.FnScope N__law_verdict ["least", "most", "limit"] (L2.defScope s__law_verdict) := ⟨rfl, rfl, rfl, by decide +kernel, rfl, by decide +kernel, by decide +kernel⟩
def F__law_verdict : List D → M D := callF 3 (sSeq (sIf (tAnd (tVal (eBin notNonD (eVar 1) (eC .non))) (tVal (eBin leD (eVar 1) (eVar 2)))) (sRet (eC (.str "within"))) sNext) (sRet (eIf (tVal (eBin gtD (eVar 0) (eVar 2))) (eC (.str "over")) (eC (.str "maybe")))))
theorem has__law_verdict (T : Tx P K mg cm)  : FL.Has P w K mg base cm "_law_verdict" 2 ["least", "most", "limit"] [[]] [] 3 F__law_verdict :=
  FL.has_of T.d__law_verdict sc__law_verdict rfl rfl (by decide) (fun _ _ _ _ _ _ us hl => match us, hl with | [_, _, _], _ => rfl) (fun f cdv A outer s H E q hr => by have tk : L2N.Takes (L2.cxOf (L2N.CX P w) P w K mg base N__law_verdict "_law_verdict" (L2.defScope s__law_verdict) f cdv A outer s H E) (fun cls d _ H' => E cls d H') := L2N.takes_of rfl rfl rfl rfl; have pa : PassesOwn (model P w) (L2.cxOf (L2N.CX P w) P w K mg base N__law_verdict "_law_verdict" (L2.defScope s__law_verdict) f cdv A outer s H E).A (L2.cxOf (L2N.CX P w) P w K mg base N__law_verdict "_law_verdict" (L2.defScope s__law_verdict) f cdv A outer s H E).env (L2.cxOf (L2N.CX P w) P w K mg base N__law_verdict "_law_verdict" (L2.defScope s__law_verdict) f cdv A outer s H E).xe := L2.passes_of rfl; exact (FL.pssx_cons (FL.psx_if (FL.PWX.pt (FL.pwx_and (FL.ptx_cmp L2.op_notN FL.notNon_ok (FL.px_var 1) FL.px_non (L2.nomark _)) (FL.pwx_and1 (FL.ptx_cmp L2.op_le FL.le_ok (FL.px_var 1) (FL.px_var 2) (L2.nomark _))))) (FL.pssx_one (FL.psx_ret FL.px_str)) FL.pssx_nil) (FL.pssx_one (FL.psx_ret (FL.px_if (FL.ptx_cmp L2.op_gt FL.gt_ok (FL.px_var 0) (FL.px_var 2) (L2.nomark _)) FL.px_str FL.px_str)))))
abbrev N_is_whole : List Str := ["thing", "low", "high"]
theorem sc_is_whole : L2.FnScope N_is_whole ["thing", "low", "high"] (L2.defScope s_is_whole) := ⟨rfl, rfl, rfl, by decide +kernel, rfl, by decide +kernel, by decide +kernel⟩
def F_is_whole : List D → M D := callF 3 (sSeq (sIf (tOr (tNot (tTru (eUn (isiB [.int]) (eVar 0)))) (tTru (eUn (isiB [.bool]) (eVar 0)))) (sRet (eC (.bl false))) sNext) (sSeq (sIf (tAnd (tVal (eBin notNonD (eVar 1) (eC .non))) (tVal (eBin ltD (eVar 0) (eVar 1)))) (sRet (eC (.bl false))) sNext) (sRet (eOr (eBin isNonD (eVar 2) (eC .non)) (eBin leD (eVar 0) (eVar 2))))))
theorem has_is_whole (T : Tx P K mg cm)  : FL.Has P w K mg base cm "is_whole" 2 ["thing", "low", "high"] [[.non, .non], [.non], []] [] 3 F_is_whole :=
  FL.has_ofD (dds := [.non, .non]) (dvs := [.non, .non]) T.d_is_whole sc_is_whole rfl rfl (by decide) (by simp) (by intros; simp [FL.RepL, FL.Rep]) (fun e he => by 
      rcases List.mem_cons.mp he with e | he
      · rw [e]; exact ⟨1, 0, rfl, rfl, fun T kV doc pm an cdv ct us its hl hi => match us, its, hl, hi with | [_], [_, _], _, _ => ⟨_, rfl, rfl⟩⟩
      rcases List.mem_cons.mp he with e | he
      · rw [e]; exact ⟨2, 1, rfl, rfl, fun T kV doc pm an cdv ct us its hl hi => match us, its, hl, hi with | [_, _], [_, _], _, _ => ⟨_, rfl, rfl⟩⟩
      rw [List.mem_singleton.mp he]; exact ⟨3, 2, rfl, rfl, fun T kV doc pm an cdv ct us its hl hi => match us, its, hl, hi with | [_, _, _], [_, _], _, _ => ⟨_, rfl, rfl⟩⟩) (fun e he => by cases he) (fun f cdv A outer s H E q hr => by have tk : L2N.Takes (L2.cxOf (L2N.CX P w) P w K mg base N_is_whole "is_whole" (L2.defScope s_is_whole) f cdv A outer s H E) (fun cls d _ H' => E cls d H') := L2N.takes_of rfl rfl rfl rfl; have pa : PassesOwn (model P w) (L2.cxOf (L2N.CX P w) P w K mg base N_is_whole "is_whole" (L2.defScope s_is_whole) f cdv A outer s H E).A (L2.cxOf (L2N.CX P w) P w K mg base N_is_whole "is_whole" (L2.defScope s_is_whole) f cdv A outer s H E).env (L2.cxOf (L2N.CX P w) P w K mg base N_is_whole "is_whole" (L2.defScope s_is_whole) f cdv A outer s H E).xe := L2.passes_of rfl; exact (FL.pssx_cons (FL.psx_if (FL.PWX.pt (FL.pwx_or (FL.ptx_not (FL.ptx_tru (FL.px_isi .int (by rfl) T.n_isinstance (by rfl) T.n_int FL.bt_int (FL.px_var 0)))) (FL.pwx_or1 (FL.ptx_tru (FL.px_isi .bool (by rfl) T.n_isinstance (by rfl) T.n_bool FL.bt_bool (FL.px_var 0)))))) (FL.pssx_one (FL.psx_ret FL.px_bl)) FL.pssx_nil) (FL.pssx_cons (FL.psx_if (FL.PWX.pt (FL.pwx_and (FL.ptx_cmp L2.op_notN FL.notNon_ok (FL.px_var 1) FL.px_non (L2.nomark _)) (FL.pwx_and1 (FL.ptx_cmp L2.op_lt FL.lt_ok (FL.px_var 0) (FL.px_var 1) (L2.nomark _))))) (FL.pssx_one (FL.psx_ret FL.px_bl)) FL.pssx_nil) (FL.pssx_one (FL.psx_ret (FL.px_or (FL.px_cmp L2.op_isN FL.isNon_ok (FL.px_var 2) FL.px_non (L2.nomark _)) (FL.px_one (FL.px_cmp L2.op_le FL.le_ok (FL.px_var 0) (FL.px_var 2) (L2.nomark _)))))))))
abbrev N_check_count : List Str := ["count"]
theorem sc_check_count : L2.FnScope N_check_count ["count"] (L2.defScope s_check_count) := ⟨rfl, rfl, rfl, by decide +kernel, rfl, by decide +kernel, by decide +kernel⟩
def F_check_count : List D → M D := callF 1 (sIf (tNot (tTru (eCall F_is_whole [(eVar 0), (eC (.int 1)), (eC (.int 8))]))) (sRaise 3 ["many"] [(eVar 0)]) sNext)
theorem has_check_count (T : Tx P K mg cm) (G_is_whole : FL.Has P w K mg base cm "is_whole" 2 ["thing", "low", "high"] [[.non, .non], [.non], []] [] 3 F_is_whole) : FL.Has P w K mg base cm "check_count" 3 ["count"] [[]] [] 1 F_check_count :=
  FL.has_of T.d_check_count sc_check_count rfl rfl (by decide) (fun _ _ _ _ _ _ us hl => match us, hl with | [_], _ => rfl) (fun f cdv A outer s H E q hr => by have tk : L2N.Takes (L2.cxOf (L2N.CX P w) P w K mg base N_check_count "check_count" (L2.defScope s_check_count) f cdv A outer s H E) (fun cls d _ H' => E cls d H') := L2N.takes_of rfl rfl rfl rfl; have pa : PassesOwn (model P w) (L2.cxOf (L2N.CX P w) P w K mg base N_check_count "check_count" (L2.defScope s_check_count) f cdv A outer s H E).A (L2.cxOf (L2N.CX P w) P w K mg base N_check_count "check_count" (L2.defScope s_check_count) f cdv A outer s H E).env (L2.cxOf (L2N.CX P w) P w K mg base N_check_count "check_count" (L2.defScope s_check_count) f cdv A outer s H E).xe := L2.passes_of rfl; exact (FL.pssx_one (FL.psx_if (FL.ptx_not (FL.ptx_tru (FL.px_has G_is_whole (hr.mono (by decide)) tk (by rfl) (FL.pax_cons (FL.px_var 0) (FL.pax_cons FL.px_int (FL.pax_cons FL.px_int FL.pax_nil)))))) (FL.pssx_one (FL.psx_raiseH 3 (T.exc_3) rfl rfl tk (hr.mono (by decide)) (by rfl) (FL.pax_cons (FL.px_var 0) FL.pax_nil))) FL.pssx_nil)))
abbrev N_are_marks : List Str := ["count", "low", "high"]
theorem sc_are_marks : L2.FnScope N_are_marks ["count", "low", "high"] (L2.defScope s_are_marks) := ⟨rfl, rfl, rfl, by decide +kernel, rfl, by decide +kernel, by decide +kernel⟩
def F_are_marks : List D → M D := callF 3 (sRet (eAnd (eCall F_is_whole [(eVar 1), (eC (.int 0)), (eVar 0)]) (eAnd (eCall F_is_whole [(eVar 2), (eC (.int 0)), (eVar 0)]) (eBin ltD (eVar 1) (eVar 2)))))
theorem has_are_marks (T : Tx P K mg cm) (G_is_whole : FL.Has P w K mg base cm "is_whole" 2 ["thing", "low", "high"] [[.non, .non], [.non], []] [] 3 F_is_whole) : FL.Has P w K mg base cm "are_marks" 3 ["count", "low", "high"] [[]] [] 3 F_are_marks :=
  FL.has_of T.d_are_marks sc_are_marks rfl rfl (by decide) (fun _ _ _ _ _ _ us hl => match us, hl with | [_, _, _], _ => rfl) (fun f cdv A outer s H E q hr => by have tk : L2N.Takes (L2.cxOf (L2N.CX P w) P w K mg base N_are_marks "are_marks" (L2.defScope s_are_marks) f cdv A outer s H E) (fun cls d _ H' => E cls d H') := L2N.takes_of rfl rfl rfl rfl; have pa : PassesOwn (model P w) (L2.cxOf (L2N.CX P w) P w K mg base N_are_marks "are_marks" (L2.defScope s_are_marks) f cdv A outer s H E).A (L2.cxOf (L2N.CX P w) P w K mg base N_are_marks "are_marks" (L2.defScope s_are_marks) f cdv A outer s H E).env (L2.cxOf (L2N.CX P w) P w K mg base N_are_marks "are_marks" (L2.defScope s_are_marks) f cdv A outer s H E).xe := L2.passes_of rfl; exact (FL.pssx_one (FL.psx_ret (FL.px_and (FL.px_has G_is_whole (hr.mono (by decide)) tk (by rfl) (FL.pax_cons (FL.px_var 1) (FL.pax_cons FL.px_int (FL.pax_cons (FL.px_var 0) FL.pax_nil)))) (FL.px_and (FL.px_has G_is_whole (hr.mono (by decide)) tk (by rfl) (FL.pax_cons (FL.px_var 2) (FL.pax_cons FL.px_int (FL.pax_cons (FL.px_var 0) FL.pax_nil)))) (FL.px_one (FL.px_cmp L2.op_lt FL.lt_ok (FL.px_var 1) (FL.px_var 2) (L2.nomark _))))))))
abbrev N_compare : List Str := ["one", "two", "left", "right"]
theorem sc_compare : L2.FnScope N_compare ["one", "two"] (L2.defScope s_compare) := ⟨rfl, rfl, rfl, by decide +kernel, rfl, by decide +kernel, by decide +kernel⟩
def F_compare : List D → M D := callF 4 (sSeq (sSet 2 (eBin mulD (eBin ixD (eVar 0) (eC (.int 0))) (eBin ixD (eVar 1) (eC (.int 1))))) (sSeq (sSet 3 (eBin mulD (eBin ixD (eVar 1) (eC (.int 0))) (eBin ixD (eVar 0) (eC (.int 1))))) (sSeq (sIf (tVal (eBin ltD (eVar 2) (eVar 3))) (sRet (eUn negD (eC (.int 1)))) sNext) (sRet (eIf (tVal (eBin gtD (eVar 2) (eVar 3))) (eC (.int 1)) (eC (.int 0)))))))
theorem has_compare (T : Tx P K mg cm)  : FL.Has P w K mg base cm "compare" 2 ["one", "two"] [[]] [] 2 F_compare :=
  FL.has_of T.d_compare sc_compare rfl rfl (by decide) (fun _ _ _ _ _ _ us hl => match us, hl with | [_, _], _ => rfl) (fun f cdv A outer s H E q hr => by have tk : L2N.Takes (L2.cxOf (L2N.CX P w) P w K mg base N_compare "compare" (L2.defScope s_compare) f cdv A outer s H E) (fun cls d _ H' => E cls d H') := L2N.takes_of rfl rfl rfl rfl; have pa : PassesOwn (model P w) (L2.cxOf (L2N.CX P w) P w K mg base N_compare "compare" (L2.defScope s_compare) f cdv A outer s H E).A (L2.cxOf (L2N.CX P w) P w K mg base N_compare "compare" (L2.defScope s_compare) f cdv A outer s H E).env (L2.cxOf (L2N.CX P w) P w K mg base N_compare "compare" (L2.defScope s_compare) f cdv A outer s H E).xe := L2.passes_of rfl; exact (FL.pssx_cons (FL.psx_set sc_compare.nd (i := 2) rfl (by first | exact Or.inl rfl | exact Or.inr rfl) (FL.px_bin FL.op_mulB FL.mul_ok (FL.px_ix (FL.px_var 0) FL.px_int) (FL.px_ix (FL.px_var 1) FL.px_int))) (FL.pssx_cons (FL.psx_set sc_compare.nd (i := 3) rfl (by first | exact Or.inl rfl | exact Or.inr rfl) (FL.px_bin FL.op_mulB FL.mul_ok (FL.px_ix (FL.px_var 1) FL.px_int) (FL.px_ix (FL.px_var 0) FL.px_int))) (FL.pssx_cons (FL.psx_if (FL.ptx_cmp L2.op_lt FL.lt_ok (FL.px_var 2) (FL.px_var 3) (L2.nomark _)) (FL.pssx_one (FL.psx_ret (FL.px_un L2.un_neg FL.neg_ok FL.px_int))) FL.pssx_nil) (FL.pssx_one (FL.psx_ret (FL.px_if (FL.ptx_cmp L2.op_gt FL.gt_ok (FL.px_var 2) (FL.px_var 3) (L2.nomark _)) FL.px_int FL.px_int)))))))
abbrev N_is_ratio : List Str := ["thing"]
theorem sc_is_ratio : L2.FnScope N_is_ratio ["thing"] (L2.defScope s_is_ratio) := ⟨rfl, rfl, rfl, by decide +kernel, rfl, by decide +kernel, by decide +kernel⟩
def F_is_ratio : List D → M D := callF 1 (sSeq (sIf (tOr (tNot (tTru (eUn (isiB [.tuple]) (eVar 0)))) (tVal (eBin neD (eCall (un1 lenD) [(eVar 0)]) (eC (.int 2))))) (sRet (eC (.bl false))) sNext) (sSeq (sIf (tOr (tNot (tTru (eCall (fun ds => F_is_whole (ds ++ [.non, .non])) [(eBin ixD (eVar 0) (eC (.int 0)))]))) (tNot (tTru (eCall (fun ds => F_is_whole (ds ++ [.non])) [(eBin ixD (eVar 0) (eC (.int 1))), (eC (.int 1))])))) (sRet (eC (.bl false))) sNext) (sRet (eBin eqD (eCall (bin2 gcdD) [(eBin ixD (eVar 0) (eC (.int 0))), (eBin ixD (eVar 0) (eC (.int 1)))]) (eC (.int 1))))))
theorem has_is_ratio (T : Tx P K mg cm) (G_is_whole : FL.Has P w K mg base cm "is_whole" 2 ["thing", "low", "high"] [[.non, .non], [.non], []] [] 3 F_is_whole) : FL.Has P w K mg base cm "is_ratio" 3 ["thing"] [[]] [] 1 F_is_ratio :=
  FL.has_of T.d_is_ratio sc_is_ratio rfl rfl (by decide) (fun _ _ _ _ _ _ us hl => match us, hl with | [_], _ => rfl) (fun f cdv A outer s H E q hr => by have tk : L2N.Takes (L2.cxOf (L2N.CX P w) P w K mg base N_is_ratio "is_ratio" (L2.defScope s_is_ratio) f cdv A outer s H E) (fun cls d _ H' => E cls d H') := L2N.takes_of rfl rfl rfl rfl; have pa : PassesOwn (model P w) (L2.cxOf (L2N.CX P w) P w K mg base N_is_ratio "is_ratio" (L2.defScope s_is_ratio) f cdv A outer s H E).A (L2.cxOf (L2N.CX P w) P w K mg base N_is_ratio "is_ratio" (L2.defScope s_is_ratio) f cdv A outer s H E).env (L2.cxOf (L2N.CX P w) P w K mg base N_is_ratio "is_ratio" (L2.defScope s_is_ratio) f cdv A outer s H E).xe := L2.passes_of rfl; exact (FL.pssx_cons (FL.psx_if (FL.PWX.pt (FL.pwx_or (FL.ptx_not (FL.ptx_tru (FL.px_isi .tuple (by rfl) T.n_isinstance (by rfl) T.n_tuple FL.bt_tuple (FL.px_var 0)))) (FL.pwx_or1 (FL.ptx_cmp (L2.op_neD (FL.hu64 hr)) FL.ne_ok (FL.px_callB L2.call_len FL.len_ok (by rfl) T.n_len FL.bt_len (FL.pax_cons (FL.px_var 0) FL.pax_nil)) FL.px_int (L2.nomark _))))) (FL.pssx_one (FL.psx_ret FL.px_bl)) FL.pssx_nil) (FL.pssx_cons (FL.psx_if (FL.PWX.pt (FL.pwx_or (FL.ptx_not (FL.ptx_tru (FL.px_hasD [.non, .non] G_is_whole (hr.mono (by decide)) tk (by rfl) (FL.pax_cons (FL.px_ix (FL.px_var 0) FL.px_int) FL.pax_nil)))) (FL.pwx_or1 (FL.ptx_not (FL.ptx_tru (FL.px_hasD [.non] G_is_whole (hr.mono (by decide)) tk (by rfl) (FL.pax_cons (FL.px_ix (FL.px_var 0) FL.px_int) (FL.pax_cons FL.px_int FL.pax_nil)))))))) (FL.pssx_one (FL.psx_ret FL.px_bl)) FL.pssx_nil) (FL.pssx_one (FL.psx_ret (FL.px_cmp (L2.op_eqD (FL.hu64 hr)) FL.eq_ok (FL.px_callF L2.cr_gcd FL.gcd_ok (by rfl) T.g_gcd (FL.pax_cons (FL.px_ix (FL.px_var 0) FL.px_int) (FL.pax_cons (FL.px_ix (FL.px_var 0) FL.px_int) FL.pax_nil))) FL.px_int (L2.nomark _)))))))
abbrev N_check_tellings : List Str := ["count", "tellings", "index", "row"]
theorem sc_check_tellings : L2.FnScope N_check_tellings ["count", "tellings"] (L2.defScope s_check_tellings) := ⟨rfl, rfl, rfl, by decide +kernel, rfl, by decide +kernel, by decide +kernel⟩
def B_check_tellings_0 : SF := (sSeq (sIf (tOr (tNot (tTru (eUn (isiB [.list, .tuple]) (eVar 3)))) (tVal (eBin neD (eCall (un1 lenD) [(eVar 3)]) (eC (.int 4))))) (sRaise 6 ["index", "what"] [(eVar 2), (eC (.str "telling"))]) sNext) (sSeq (sIf (tNot (tTru (eCall F_are_marks [(eVar 0), (eBin ixD (eVar 3) (eC (.int 0))), (eBin ixD (eVar 3) (eC (.int 1)))]))) (sRaise 6 ["index", "what"] [(eVar 2), (eC (.str "marks"))]) sNext) (sSeq (sIf (tOr (tNot (tTru (eCall F_is_ratio [(eBin ixD (eVar 3) (eC (.int 2)))]))) (tNot (tTru (eCall F_is_ratio [(eBin ixD (eVar 3) (eC (.int 3)))])))) (sRaise 6 ["index", "what"] [(eVar 2), (eC (.str "amount"))]) sNext) (sIf (tVal (eBin gtD (eCall F_compare [(eBin ixD (eVar 3) (eC (.int 2))), (eBin ixD (eVar 3) (eC (.int 3)))]) (eC (.int 0)))) (sRaise 6 ["index", "what"] [(eVar 2), (eC (.str "order"))]) sNext))))
theorem B_check_tellings_0_w {ρ : FL.Env} {w : Wd} : B_check_tellings_0 ρ w = (sSeq (sIf (tOr (tNot (tTru (eUn (isiB [.list, .tuple]) (eVar 3)))) (tVal (eBin neD (eCall (un1 lenD) [(eVar 3)]) (eC (.int 4))))) (sRaise 6 ["index", "what"] [(eVar 2), (eC (.str "telling"))]) sNext) (sSeq (sIf (tNot (tTru (eCall F_are_marks [(eVar 0), (eBin ixD (eVar 3) (eC (.int 0))), (eBin ixD (eVar 3) (eC (.int 1)))]))) (sRaise 6 ["index", "what"] [(eVar 2), (eC (.str "marks"))]) sNext) (sSeq (sIf (tOr (tNot (tTru (eCall F_is_ratio [(eBin ixD (eVar 3) (eC (.int 2)))]))) (tNot (tTru (eCall F_is_ratio [(eBin ixD (eVar 3) (eC (.int 3)))])))) (sRaise 6 ["index", "what"] [(eVar 2), (eC (.str "amount"))]) sNext) (sIf (tVal (eBin gtD (eCall F_compare [(eBin ixD (eVar 3) (eC (.int 2))), (eBin ixD (eVar 3) (eC (.int 3)))]) (eC (.int 0)))) (sRaise 6 ["index", "what"] [(eVar 2), (eC (.str "order"))]) sNext)))) ρ w := rfl
def F_check_tellings : List D → M D := callF 4 (sSeq (sExpr (eCall F_check_count [(eVar 0)])) (sSeq (sIf (tOr (tNot (tTru (eUn (isiB [.list, .tuple]) (eVar 1)))) (tVal (eBin gtD (eCall (un1 lenD) [(eVar 1)]) (eC (.int 24))))) (sRaise 6 ["index", "what"] [(eC (.int 0)), (eC (.str "many"))]) sNext) (sSeq (sFor (iEnum (eVar 1)) (gT [2, 3]) B_check_tellings_0) (sRet (eCall (un1 tupD) [(eNew (nLc (iSeq (eVar 1)) [3] (gN 3) tYes (eTup [(eBin ixD (eVar 3) (eC (.int 0))), (eBin ixD (eVar 3) (eC (.int 1))), (eBin ixD (eVar 3) (eC (.int 2))), (eBin ixD (eVar 3) (eC (.int 3)))])))])))))
theorem has_check_tellings (T : Tx P K mg cm) (G_are_marks : FL.Has P w K mg base cm "are_marks" 3 ["count", "low", "high"] [[]] [] 3 F_are_marks) (G_check_count : FL.Has P w K mg base cm "check_count" 3 ["count"] [[]] [] 1 F_check_count) (G_compare : FL.Has P w K mg base cm "compare" 2 ["one", "two"] [[]] [] 2 F_compare) (G_is_ratio : FL.Has P w K mg base cm "is_ratio" 3 ["thing"] [[]] [] 1 F_is_ratio) : FL.Has P w K mg base cm "check_tellings" 4 ["count", "tellings"] [[]] [] 2 F_check_tellings :=
  FL.has_of T.d_check_tellings sc_check_tellings rfl rfl (by decide) (fun _ _ _ _ _ _ us hl => match us, hl with | [_, _], _ => rfl) (fun f cdv A outer s H E q hr => by have tk : L2N.Takes (L2.cxOf (L2N.CX P w) P w K mg base N_check_tellings "check_tellings" (L2.defScope s_check_tellings) f cdv A outer s H E) (fun cls d _ H' => E cls d H') := L2N.takes_of rfl rfl rfl rfl; have pa : PassesOwn (model P w) (L2.cxOf (L2N.CX P w) P w K mg base N_check_tellings "check_tellings" (L2.defScope s_check_tellings) f cdv A outer s H E).A (L2.cxOf (L2N.CX P w) P w K mg base N_check_tellings "check_tellings" (L2.defScope s_check_tellings) f cdv A outer s H E).env (L2.cxOf (L2N.CX P w) P w K mg base N_check_tellings "check_tellings" (L2.defScope s_check_tellings) f cdv A outer s H E).xe := L2.passes_of rfl; exact (FL.pssx_cons (FL.psx_expr (FL.px_has G_check_count (hr.mono (by decide)) tk (by rfl) (FL.pax_cons (FL.px_var 0) FL.pax_nil))) (FL.pssx_cons (FL.psx_if (FL.PWX.pt (FL.pwx_or (FL.ptx_not (FL.ptx_tru (FL.px_isi2 .list .tuple (by rfl) T.n_isinstance (by rfl) T.n_list FL.bt_list (by rfl) T.n_tuple FL.bt_tuple (FL.px_var 1)))) (FL.pwx_or1 (FL.ptx_cmp L2.op_gt FL.gt_ok (FL.px_callB L2.call_len FL.len_ok (by rfl) T.n_len FL.bt_len (FL.pax_cons (FL.px_var 1) FL.pax_nil)) FL.px_int (L2.nomark _))))) (FL.pssx_one (FL.psx_raiseH 6 (T.exc_6) rfl rfl tk (hr.mono (by decide)) (by rfl) (FL.pax_cons FL.px_int (FL.pax_cons FL.px_str FL.pax_nil)))) FL.pssx_nil) (FL.pssx_cons (FL.psx_for pa rfl (FL.pix_enum (by rfl) T.n_enumerate (FL.px_var 1)) (L2.pg_tup rfl (L2.pgs_cons (L2.pg_name (i := 2) sc_check_tellings.nd rfl (by first | exact Or.inl rfl | exact Or.inr rfl)) (L2.pgs_cons (L2.pg_name (i := 3) sc_check_tellings.nd rfl (by first | exact Or.inl rfl | exact Or.inr rfl)) L2.pgs_nil))) (FL.tgx_t [2, 3]) (FL.pssx_cons (FL.psx_if (FL.PWX.pt (FL.pwx_or (FL.ptx_not (FL.ptx_tru (FL.px_isi2 .list .tuple (by rfl) T.n_isinstance (by rfl) T.n_list FL.bt_list (by rfl) T.n_tuple FL.bt_tuple (FL.px_var 3)))) (FL.pwx_or1 (FL.ptx_cmp (L2.op_neD (FL.hu64 hr)) FL.ne_ok (FL.px_callB L2.call_len FL.len_ok (by rfl) T.n_len FL.bt_len (FL.pax_cons (FL.px_var 3) FL.pax_nil)) FL.px_int (L2.nomark _))))) (FL.pssx_one (FL.psx_raiseH 6 (T.exc_6) rfl rfl tk (hr.mono (by decide)) (by rfl) (FL.pax_cons (FL.px_var 2) (FL.pax_cons FL.px_str FL.pax_nil)))) FL.pssx_nil) (FL.pssx_cons (FL.psx_if (FL.ptx_not (FL.ptx_tru (FL.px_has G_are_marks (hr.mono (by decide)) tk (by rfl) (FL.pax_cons (FL.px_var 0) (FL.pax_cons (FL.px_ix (FL.px_var 3) FL.px_int) (FL.pax_cons (FL.px_ix (FL.px_var 3) FL.px_int) FL.pax_nil)))))) (FL.pssx_one (FL.psx_raiseH 6 (T.exc_6) rfl rfl tk (hr.mono (by decide)) (by rfl) (FL.pax_cons (FL.px_var 2) (FL.pax_cons FL.px_str FL.pax_nil)))) FL.pssx_nil) (FL.pssx_cons (FL.psx_if (FL.PWX.pt (FL.pwx_or (FL.ptx_not (FL.ptx_tru (FL.px_has G_is_ratio (hr.mono (by decide)) tk (by rfl) (FL.pax_cons (FL.px_ix (FL.px_var 3) FL.px_int) FL.pax_nil)))) (FL.pwx_or1 (FL.ptx_not (FL.ptx_tru (FL.px_has G_is_ratio (hr.mono (by decide)) tk (by rfl) (FL.pax_cons (FL.px_ix (FL.px_var 3) FL.px_int) FL.pax_nil))))))) (FL.pssx_one (FL.psx_raiseH 6 (T.exc_6) rfl rfl tk (hr.mono (by decide)) (by rfl) (FL.pax_cons (FL.px_var 2) (FL.pax_cons FL.px_str FL.pax_nil)))) FL.pssx_nil) (FL.pssx_one (FL.psx_if (FL.ptx_cmp L2.op_gt FL.gt_ok (FL.px_has G_compare (hr.mono (by decide)) tk (by rfl) (FL.pax_cons (FL.px_ix (FL.px_var 3) FL.px_int) (FL.pax_cons (FL.px_ix (FL.px_var 3) FL.px_int) FL.pax_nil))) FL.px_int (L2.nomark _)) (FL.pssx_one (FL.psx_raiseH 6 (T.exc_6) rfl rfl tk (hr.mono (by decide)) (by rfl) (FL.pax_cons (FL.px_var 2) (FL.pax_cons FL.px_str FL.pax_nil)))) FL.pssx_nil)))))) (FL.pssx_one (FL.psx_ret (FL.px_callTy L2.call_tuple_of FL.tuple_ok (by rfl) T.n_tuple FL.bt_tuple (FL.pax_cons (FL.px_new (FL.pnx_lcE (own := [("row", 3)]) rfl sc_check_tellings.nd (FL.pix_any (FL.px_var 1)) (L2.blkOk_by (N := N_check_tellings) (sc := L2.defScope s_check_tellings) (by decide +kernel)) rfl (fun _ _ _ _ _ => (L2.pg_name (i := 3) sc_check_tellings.nd rfl (by first | exact Or.inl rfl | exact Or.inr rfl))) (FL.tgx_n 3) (fun _ _ _ _ _ => FL.ptsx0) (fun _ _ _ _ _ => (FL.px_tup (FL.pax_cons (FL.px_ix (FL.px_var 3) FL.px_int) (FL.pax_cons (FL.px_ix (FL.px_var 3) FL.px_int) (FL.pax_cons (FL.px_ix (FL.px_var 3) FL.px_int) (FL.pax_cons (FL.px_ix (FL.px_var 3) FL.px_int) FL.pax_nil)))))))) FL.pax_nil))))))))
abbrev N_check_ties : List Str := ["count", "ties", "index", "tie"]
theorem sc_check_ties : L2.FnScope N_check_ties ["count", "ties"] (L2.defScope s_check_ties) := ⟨rfl, rfl, rfl, by decide +kernel, rfl, by decide +kernel, by decide +kernel⟩
def B_check_ties_0 : SF := (sSeq (sIf (tOr (tNot (tTru (eUn (isiB [.list, .tuple]) (eVar 3)))) (tVal (eBin neD (eCall (un1 lenD) [(eVar 3)]) (eC (.int 2))))) (sRaise 4 ["index", "what"] [(eVar 2), (eC (.str "tie"))]) sNext) (sIf (tNot (tTru (eCall F_are_marks [(eVar 0), (eBin ixD (eVar 3) (eC (.int 0))), (eBin ixD (eVar 3) (eC (.int 1)))]))) (sRaise 4 ["index", "what"] [(eVar 2), (eC (.str "marks"))]) sNext))
theorem B_check_ties_0_w {ρ : FL.Env} {w : Wd} : B_check_ties_0 ρ w = (sSeq (sIf (tOr (tNot (tTru (eUn (isiB [.list, .tuple]) (eVar 3)))) (tVal (eBin neD (eCall (un1 lenD) [(eVar 3)]) (eC (.int 2))))) (sRaise 4 ["index", "what"] [(eVar 2), (eC (.str "tie"))]) sNext) (sIf (tNot (tTru (eCall F_are_marks [(eVar 0), (eBin ixD (eVar 3) (eC (.int 0))), (eBin ixD (eVar 3) (eC (.int 1)))]))) (sRaise 4 ["index", "what"] [(eVar 2), (eC (.str "marks"))]) sNext)) ρ w := rfl
def F_check_ties : List D → M D := callF 4 (sSeq (sExpr (eCall F_check_count [(eVar 0)])) (sSeq (sIf (tOr (tNot (tTru (eUn (isiB [.list, .tuple]) (eVar 1)))) (tVal (eBin gtD (eCall (un1 lenD) [(eVar 1)]) (eC (.int 24))))) (sRaise 4 ["index", "what"] [(eC (.int 0)), (eC (.str "many"))]) sNext) (sSeq (sFor (iEnum (eVar 1)) (gT [2, 3]) B_check_ties_0) (sRet (eCall (un1 tupD) [(eNew (nLc (iSeq (eVar 1)) [3] (gN 3) tYes (eTup [(eBin ixD (eVar 3) (eC (.int 0))), (eBin ixD (eVar 3) (eC (.int 1)))])))])))))
theorem has_check_ties (T : Tx P K mg cm) (G_are_marks : FL.Has P w K mg base cm "are_marks" 3 ["count", "low", "high"] [[]] [] 3 F_are_marks) (G_check_count : FL.Has P w K mg base cm "check_count" 3 ["count"] [[]] [] 1 F_check_count) : FL.Has P w K mg base cm "check_ties" 4 ["count", "ties"] [[]] [] 2 F_check_ties :=
  FL.has_of T.d_check_ties sc_check_ties rfl rfl (by decide) (fun _ _ _ _ _ _ us hl => match us, hl with | [_, _], _ => rfl) (fun f cdv A outer s H E q hr => by have tk : L2N.Takes (L2.cxOf (L2N.CX P w) P w K mg base N_check_ties "check_ties" (L2.defScope s_check_ties) f cdv A outer s H E) (fun cls d _ H' => E cls d H') := L2N.takes_of rfl rfl rfl rfl; have pa : PassesOwn (model P w) (L2.cxOf (L2N.CX P w) P w K mg base N_check_ties "check_ties" (L2.defScope s_check_ties) f cdv A outer s H E).A (L2.cxOf (L2N.CX P w) P w K mg base N_check_ties "check_ties" (L2.defScope s_check_ties) f cdv A outer s H E).env (L2.cxOf (L2N.CX P w) P w K mg base N_check_ties "check_ties" (L2.defScope s_check_ties) f cdv A outer s H E).xe := L2.passes_of rfl; exact (FL.pssx_cons (FL.psx_expr (FL.px_has G_check_count (hr.mono (by decide)) tk (by rfl) (FL.pax_cons (FL.px_var 0) FL.pax_nil))) (FL.pssx_cons (FL.psx_if (FL.PWX.pt (FL.pwx_or (FL.ptx_not (FL.ptx_tru (FL.px_isi2 .list .tuple (by rfl) T.n_isinstance (by rfl) T.n_list FL.bt_list (by rfl) T.n_tuple FL.bt_tuple (FL.px_var 1)))) (FL.pwx_or1 (FL.ptx_cmp L2.op_gt FL.gt_ok (FL.px_callB L2.call_len FL.len_ok (by rfl) T.n_len FL.bt_len (FL.pax_cons (FL.px_var 1) FL.pax_nil)) FL.px_int (L2.nomark _))))) (FL.pssx_one (FL.psx_raiseH 4 (T.exc_4) rfl rfl tk (hr.mono (by decide)) (by rfl) (FL.pax_cons FL.px_int (FL.pax_cons FL.px_str FL.pax_nil)))) FL.pssx_nil) (FL.pssx_cons (FL.psx_for pa rfl (FL.pix_enum (by rfl) T.n_enumerate (FL.px_var 1)) (L2.pg_tup rfl (L2.pgs_cons (L2.pg_name (i := 2) sc_check_ties.nd rfl (by first | exact Or.inl rfl | exact Or.inr rfl)) (L2.pgs_cons (L2.pg_name (i := 3) sc_check_ties.nd rfl (by first | exact Or.inl rfl | exact Or.inr rfl)) L2.pgs_nil))) (FL.tgx_t [2, 3]) (FL.pssx_cons (FL.psx_if (FL.PWX.pt (FL.pwx_or (FL.ptx_not (FL.ptx_tru (FL.px_isi2 .list .tuple (by rfl) T.n_isinstance (by rfl) T.n_list FL.bt_list (by rfl) T.n_tuple FL.bt_tuple (FL.px_var 3)))) (FL.pwx_or1 (FL.ptx_cmp (L2.op_neD (FL.hu64 hr)) FL.ne_ok (FL.px_callB L2.call_len FL.len_ok (by rfl) T.n_len FL.bt_len (FL.pax_cons (FL.px_var 3) FL.pax_nil)) FL.px_int (L2.nomark _))))) (FL.pssx_one (FL.psx_raiseH 4 (T.exc_4) rfl rfl tk (hr.mono (by decide)) (by rfl) (FL.pax_cons (FL.px_var 2) (FL.pax_cons FL.px_str FL.pax_nil)))) FL.pssx_nil) (FL.pssx_one (FL.psx_if (FL.ptx_not (FL.ptx_tru (FL.px_has G_are_marks (hr.mono (by decide)) tk (by rfl) (FL.pax_cons (FL.px_var 0) (FL.pax_cons (FL.px_ix (FL.px_var 3) FL.px_int) (FL.pax_cons (FL.px_ix (FL.px_var 3) FL.px_int) FL.pax_nil)))))) (FL.pssx_one (FL.psx_raiseH 4 (T.exc_4) rfl rfl tk (hr.mono (by decide)) (by rfl) (FL.pax_cons (FL.px_var 2) (FL.pax_cons FL.px_str FL.pax_nil)))) FL.pssx_nil)))) (FL.pssx_one (FL.psx_ret (FL.px_callTy L2.call_tuple_of FL.tuple_ok (by rfl) T.n_tuple FL.bt_tuple (FL.pax_cons (FL.px_new (FL.pnx_lcE (own := [("tie", 3)]) rfl sc_check_ties.nd (FL.pix_any (FL.px_var 1)) (L2.blkOk_by (N := N_check_ties) (sc := L2.defScope s_check_ties) (by decide +kernel)) rfl (fun _ _ _ _ _ => (L2.pg_name (i := 3) sc_check_ties.nd rfl (by first | exact Or.inl rfl | exact Or.inr rfl))) (FL.tgx_n 3) (fun _ _ _ _ _ => FL.ptsx0) (fun _ _ _ _ _ => (FL.px_tup (FL.pax_cons (FL.px_ix (FL.px_var 3) FL.px_int) (FL.pax_cons (FL.px_ix (FL.px_var 3) FL.px_int) FL.pax_nil)))))) FL.pax_nil))))))))
abbrev N_negative : List Str := ["one"]
theorem sc_negative : L2.FnScope N_negative ["one"] (L2.defScope s_negative) := ⟨rfl, rfl, rfl, by decide +kernel, rfl, by decide +kernel, by decide +kernel⟩
def F_negative : List D → M D := callF 1 (sRet (eTup [(eUn negD (eBin ixD (eVar 0) (eC (.int 0)))), (eBin ixD (eVar 0) (eC (.int 1)))]))
theorem has_negative (T : Tx P K mg cm)  : FL.Has P w K mg base cm "negative" 2 ["one"] [[]] [] 1 F_negative :=
  FL.has_of T.d_negative sc_negative rfl rfl (by decide) (fun _ _ _ _ _ _ us hl => match us, hl with | [_], _ => rfl) (fun f cdv A outer s H E q hr => by have tk : L2N.Takes (L2.cxOf (L2N.CX P w) P w K mg base N_negative "negative" (L2.defScope s_negative) f cdv A outer s H E) (fun cls d _ H' => E cls d H') := L2N.takes_of rfl rfl rfl rfl; have pa : PassesOwn (model P w) (L2.cxOf (L2N.CX P w) P w K mg base N_negative "negative" (L2.defScope s_negative) f cdv A outer s H E).A (L2.cxOf (L2N.CX P w) P w K mg base N_negative "negative" (L2.defScope s_negative) f cdv A outer s H E).env (L2.cxOf (L2N.CX P w) P w K mg base N_negative "negative" (L2.defScope s_negative) f cdv A outer s H E).xe := L2.passes_of rfl; exact (FL.pssx_one (FL.psx_ret (FL.px_tup (FL.pax_cons (FL.px_un L2.un_neg FL.neg_ok (FL.px_ix (FL.px_var 0) FL.px_int)) (FL.pax_cons (FL.px_ix (FL.px_var 0) FL.px_int) FL.pax_nil))))))
abbrev N_bounds_by : List Str := ["count", "tellings", "found", "number", "low", "high", "least", "most", "axle"]
theorem sc_bounds_by : L2.FnScope N_bounds_by ["count", "tellings"] (L2.defScope s_bounds_by) := ⟨rfl, rfl, rfl, by decide +kernel, rfl, by decide +kernel, by decide +kernel⟩
def B_bounds_by_0 : SF := (sSeq (sApp 2 (eTup [(eTup [(eC (.str "most")), (eVar 3)]), (eVar 4), (eVar 5), (eVar 7)])) (sApp 2 (eTup [(eTup [(eC (.str "least")), (eVar 3)]), (eVar 5), (eVar 4), (eCall F_negative [(eVar 6)])])))
theorem B_bounds_by_0_w {ρ : FL.Env} {w : Wd} : B_bounds_by_0 ρ w = (sSeq (sApp 2 (eTup [(eTup [(eC (.str "most")), (eVar 3)]), (eVar 4), (eVar 5), (eVar 7)])) (sApp 2 (eTup [(eTup [(eC (.str "least")), (eVar 3)]), (eVar 5), (eVar 4), (eCall F_negative [(eVar 6)])]))) ρ w := rfl
def B_bounds_by_1 : SF := (sApp 2 (eTup [(eTup [(eC (.str "weight")), (eVar 8)]), (eBin addD (eVar 8) (eC (.int 1))), (eVar 8), (eC (.tup [(.int 0), (.int 1)]))]))
theorem B_bounds_by_1_w {ρ : FL.Env} {w : Wd} : B_bounds_by_1 ρ w = (sApp 2 (eTup [(eTup [(eC (.str "weight")), (eVar 8)]), (eBin addD (eVar 8) (eC (.int 1))), (eVar 8), (eC (.tup [(.int 0), (.int 1)]))])) ρ w := rfl
def F_bounds_by : List D → M D := callF 9 (sSeq (sOwn 2 (evs [])) (sSeq (sFor (iEnum (eVar 1)) (gTN 3 [4, 5, 6, 7]) B_bounds_by_0) (sSeq (sFor (iRng (eC (.int 0)) (eVar 0)) (gN 8) B_bounds_by_1) (sSeq (sFrz 2) (sRet (eVar 2))))))
theorem has_bounds_by (T : Tx P K mg cm) (G_negative : FL.Has P w K mg base cm "negative" 2 ["one"] [[]] [] 1 F_negative) : FL.Has P w K mg base cm "bounds_by" 3 ["count", "tellings"] [[]] [] 2 F_bounds_by :=
  FL.has_of T.d_bounds_by sc_bounds_by rfl rfl (by decide) (fun _ _ _ _ _ _ us hl => match us, hl with | [_, _], _ => rfl) (fun f cdv A outer s H E q hr => by have tk : L2N.Takes (L2.cxOf (L2N.CX P w) P w K mg base N_bounds_by "bounds_by" (L2.defScope s_bounds_by) f cdv A outer s H E) (fun cls d _ H' => E cls d H') := L2N.takes_of rfl rfl rfl rfl; have pa : PassesOwn (model P w) (L2.cxOf (L2N.CX P w) P w K mg base N_bounds_by "bounds_by" (L2.defScope s_bounds_by) f cdv A outer s H E).A (L2.cxOf (L2N.CX P w) P w K mg base N_bounds_by "bounds_by" (L2.defScope s_bounds_by) f cdv A outer s H E).env (L2.cxOf (L2N.CX P w) P w K mg base N_bounds_by "bounds_by" (L2.defScope s_bounds_by) f cdv A outer s H E).xe := L2.passes_of rfl; exact (FL.pssx_cons (FL.psx_own sc_bounds_by.nd (i := 2) rfl (by first | exact Or.inl rfl | exact Or.inr rfl) (FL.pnx_lst FL.pax_nil)) (FL.pssx_cons (FL.psx_for pa rfl (FL.pix_enum (by rfl) T.n_enumerate (FL.px_var 1)) (L2.pg_tup rfl (L2.pgs_cons (L2.pg_name (i := 3) sc_bounds_by.nd rfl (by first | exact Or.inl rfl | exact Or.inr rfl)) (L2.pgs_cons (L2.pg_tup rfl (L2.pgs_cons (L2.pg_name (i := 4) sc_bounds_by.nd rfl (by first | exact Or.inl rfl | exact Or.inr rfl)) (L2.pgs_cons (L2.pg_name (i := 5) sc_bounds_by.nd rfl (by first | exact Or.inl rfl | exact Or.inr rfl)) (L2.pgs_cons (L2.pg_name (i := 6) sc_bounds_by.nd rfl (by first | exact Or.inl rfl | exact Or.inr rfl)) (L2.pgs_cons (L2.pg_name (i := 7) sc_bounds_by.nd rfl (by first | exact Or.inl rfl | exact Or.inr rfl)) L2.pgs_nil))))) L2.pgs_nil))) (FL.tgx_tn 3 [4, 5, 6, 7]) (FL.pssx_cons (FL.psx_appE 2 (FL.px_tup (FL.pax_cons (FL.px_tup (FL.pax_cons FL.px_str (FL.pax_cons (FL.px_var 3) FL.pax_nil))) (FL.pax_cons (FL.px_var 4) (FL.pax_cons (FL.px_var 5) (FL.pax_cons (FL.px_var 7) FL.pax_nil)))))) (FL.pssx_one (FL.psx_appE 2 (FL.px_tup (FL.pax_cons (FL.px_tup (FL.pax_cons FL.px_str (FL.pax_cons (FL.px_var 3) FL.pax_nil))) (FL.pax_cons (FL.px_var 5) (FL.pax_cons (FL.px_var 4) (FL.pax_cons (FL.px_has G_negative (hr.mono (by decide)) tk (by rfl) (FL.pax_cons (FL.px_var 6) FL.pax_nil)) FL.pax_nil))))))))) (FL.pssx_cons (FL.psx_for pa rfl (FL.pix_range1 (by rfl) T.n_range (FL.px_var 0)) (L2.pg_name (i := 8) sc_bounds_by.nd rfl (by first | exact Or.inl rfl | exact Or.inr rfl)) (FL.tgx_n 8) (FL.pssx_one (FL.psx_appE 2 (FL.px_tup (FL.pax_cons (FL.px_tup (FL.pax_cons FL.px_str (FL.pax_cons (FL.px_var 8) FL.pax_nil))) (FL.pax_cons (FL.px_bin FL.op_addA FL.add_ok (FL.px_var 8) FL.px_int) (FL.pax_cons (FL.px_var 8) (FL.pax_cons (FL.px_gtupE (by rfl) T.c_ZERO) FL.pax_nil)))))))) (FL.pssx_frz 2 (FL.pssx_one (FL.psx_ret (FL.px_var 2))))))))
abbrev N_bottom_of : List Str := ["bounds", "bottom", "row"]
theorem sc_bottom_of : L2.FnScope N_bottom_of ["bounds"] (L2.defScope s_bottom_of) := ⟨rfl, rfl, rfl, by decide +kernel, rfl, by decide +kernel, by decide +kernel⟩
def B_bottom_of_0 : SF := (sSet 1 (eCall lcmD [(eVar 1), (eBin ixD (eBin ixD (eVar 2) (eC (.int 3))) (eC (.int 1)))]))
theorem B_bottom_of_0_w {ρ : FL.Env} {w : Wd} : B_bottom_of_0 ρ w = (sSet 1 (eCall lcmD [(eVar 1), (eBin ixD (eBin ixD (eVar 2) (eC (.int 3))) (eC (.int 1)))])) ρ w := rfl
def F_bottom_of : List D → M D := callF 3 (sSeq (sSet 1 (eC (.int 1))) (sSeq (sFor (iSeq (eVar 0)) (gN 2) B_bottom_of_0) (sRet (eVar 1))))
theorem has_bottom_of (T : Tx P K mg cm)  : FL.Has P w K mg base cm "bottom_of" 2 ["bounds"] [[]] [] 1 F_bottom_of :=
  FL.has_of T.d_bottom_of sc_bottom_of rfl rfl (by decide) (fun _ _ _ _ _ _ us hl => match us, hl with | [_], _ => rfl) (fun f cdv A outer s H E q hr => by have tk : L2N.Takes (L2.cxOf (L2N.CX P w) P w K mg base N_bottom_of "bottom_of" (L2.defScope s_bottom_of) f cdv A outer s H E) (fun cls d _ H' => E cls d H') := L2N.takes_of rfl rfl rfl rfl; have pa : PassesOwn (model P w) (L2.cxOf (L2N.CX P w) P w K mg base N_bottom_of "bottom_of" (L2.defScope s_bottom_of) f cdv A outer s H E).A (L2.cxOf (L2N.CX P w) P w K mg base N_bottom_of "bottom_of" (L2.defScope s_bottom_of) f cdv A outer s H E).env (L2.cxOf (L2N.CX P w) P w K mg base N_bottom_of "bottom_of" (L2.defScope s_bottom_of) f cdv A outer s H E).xe := L2.passes_of rfl; exact (FL.pssx_cons (FL.psx_set sc_bottom_of.nd (i := 1) rfl (by first | exact Or.inl rfl | exact Or.inr rfl) FL.px_int) (FL.pssx_cons (FL.psx_for pa rfl (FL.pix_any (FL.px_var 0)) (L2.pg_name (i := 2) sc_bottom_of.nd rfl (by first | exact Or.inl rfl | exact Or.inr rfl)) (FL.tgx_n 2) (FL.pssx_one (FL.psx_set sc_bottom_of.nd (i := 1) rfl (by first | exact Or.inl rfl | exact Or.inr rfl) (FL.px_callF FL.cr_lcm FL.lcm_ok (by rfl) T.g_lcm (FL.pax_cons (FL.px_var 1) (FL.pax_cons (FL.px_ix (FL.px_ix (FL.px_var 2) FL.px_int) FL.px_int) FL.pax_nil)))))) (FL.pssx_one (FL.psx_ret (FL.px_var 1))))))
abbrev N_spread_amounts : List Str := ["bounds", "bottom", "amounts", "rows", "lasts", "falling", "_", "number", "begin", "end", "extra", "row", "amount"]
theorem sc_spread_amounts : L2.FnScope N_spread_amounts ["bounds", "bottom", "amounts"] (L2.defScope s_spread_amounts) := ⟨rfl, rfl, rfl, by decide +kernel, rfl, by decide +kernel, by decide +kernel⟩
def B_spread_amounts_0 : SF := (sSeq (sIf (tVal (eBin isNonD (eOwnIx 2 (eVar 8)) (eC .non))) sCnt sNext) (sIf (tOr (tVal (eBin isNonD (eOwnIx 2 (eVar 9)) (eC .non))) (tVal (eBin ltD (eBin addD (eOwnIx 2 (eVar 8)) (eVar 10)) (eOwnIx 2 (eVar 9))))) (sSeq (sItem 2 (eVar 9) (eBin addD (eOwnIx 2 (eVar 8)) (eVar 10))) (sSeq (sItem 4 (eVar 9) (eVar 7)) (sSet 5 (eVar 9)))) sNext))
theorem B_spread_amounts_0_w {ρ : FL.Env} {w : Wd} : B_spread_amounts_0 ρ w = (sSeq (sIf (tVal (eBin isNonD (eOwnIx 2 (eVar 8)) (eC .non))) sCnt sNext) (sIf (tOr (tVal (eBin isNonD (eOwnIx 2 (eVar 9)) (eC .non))) (tVal (eBin ltD (eBin addD (eOwnIx 2 (eVar 8)) (eVar 10)) (eOwnIx 2 (eVar 9))))) (sSeq (sItem 2 (eVar 9) (eBin addD (eOwnIx 2 (eVar 8)) (eVar 10))) (sSeq (sItem 4 (eVar 9) (eVar 7)) (sSet 5 (eVar 9)))) sNext)) ρ w := rfl
def B_spread_amounts_1 : SF := (sSeq (sSet 5 (eC .non)) (sSeq (sFor (iEnum (eVar 3)) (gTN 7 [8, 9, 10]) B_spread_amounts_0) (sIf (tVal (eBin isNonD (eVar 5) (eC .non))) sBrk sNext)))
theorem B_spread_amounts_1_w {ρ : FL.Env} {w : Wd} : B_spread_amounts_1 ρ w = (sSeq (sSet 5 (eC .non)) (sSeq (sFor (iEnum (eVar 3)) (gTN 7 [8, 9, 10]) B_spread_amounts_0) (sIf (tVal (eBin isNonD (eVar 5) (eC .non))) sBrk sNext))) ρ w := rfl
def F_spread_amounts : List D → M D := callF 13 (sSeq (sSet 3 (eNew (nLc (iSeq (eVar 0)) [11] (gN 11) tYes (eTup [(eBin ixD (eVar 11) (eC (.int 1))), (eBin ixD (eVar 11) (eC (.int 2))), (eBin mulD (eBin ixD (eBin ixD (eVar 11) (eC (.int 3))) (eC (.int 0))) (eBin fdivD (eVar 1) (eBin ixD (eBin ixD (eVar 11) (eC (.int 3))) (eC (.int 1)))))])))) (sSeq (sOwn 2 (nList (eVar 2))) (sSeq (sOwn 4 (nBor (nLc (iSeq (eVar 2)) [12] (gN 12) tYes (eC .non)))) (sSeq (sSet 5 (eC .non)) (sSeq (sFor (iRng (eC (.int 0)) (eBor (eCall (un1 lenD) [(eVar 2)]))) (gN 6) B_spread_amounts_1) (sSeq (sFrz 2) (sSeq (sFrz 4) (sRet (eTup [(eVar 2), (eVar 4), (eVar 5)])))))))))
theorem has_spread_amounts (T : Tx P K mg cm)  : FL.Has P w K mg base cm "spread_amounts" 2 ["bounds", "bottom", "amounts"] [[]] [] 3 F_spread_amounts :=
  FL.has_of T.d_spread_amounts sc_spread_amounts rfl rfl (by decide) (fun _ _ _ _ _ _ us hl => match us, hl with | [_, _, _], _ => rfl) (fun f cdv A outer s H E q hr => by have tk : L2N.Takes (L2.cxOf (L2N.CX P w) P w K mg base N_spread_amounts "spread_amounts" (L2.defScope s_spread_amounts) f cdv A outer s H E) (fun cls d _ H' => E cls d H') := L2N.takes_of rfl rfl rfl rfl; have pa : PassesOwn (model P w) (L2.cxOf (L2N.CX P w) P w K mg base N_spread_amounts "spread_amounts" (L2.defScope s_spread_amounts) f cdv A outer s H E).A (L2.cxOf (L2N.CX P w) P w K mg base N_spread_amounts "spread_amounts" (L2.defScope s_spread_amounts) f cdv A outer s H E).env (L2.cxOf (L2N.CX P w) P w K mg base N_spread_amounts "spread_amounts" (L2.defScope s_spread_amounts) f cdv A outer s H E).xe := L2.passes_of rfl; exact (FL.pssx_cons (FL.psx_setLc (i := 3) (own := [("row", 11)]) rfl sc_spread_amounts.nd rfl rfl (L2.sw_true rfl rfl rfl (by decide +kernel)) (FL.pix_any (FL.px_var 0)) (L2.blkOk_by (N := N_spread_amounts) (sc := L2.defScope s_spread_amounts) (by decide +kernel)) rfl (fun _ _ _ _ _ => (L2.pg_name (i := 11) sc_spread_amounts.nd rfl (by first | exact Or.inl rfl | exact Or.inr rfl))) (FL.tgx_n 11) (fun _ _ _ _ _ => FL.ptsx0) (fun _ _ _ _ _ => (FL.px_tup (FL.pax_cons (FL.px_ix (FL.px_var 11) FL.px_int) (FL.pax_cons (FL.px_ix (FL.px_var 11) FL.px_int) (FL.pax_cons (FL.px_bin FL.op_mulB FL.mul_ok (FL.px_ix (FL.px_ix (FL.px_var 11) FL.px_int) FL.px_int) (FL.px_bin FL.op_fdivZ FL.fdiv_ok (FL.px_var 1) (FL.px_ix (FL.px_ix (FL.px_var 11) FL.px_int) FL.px_int))) FL.pax_nil)))))) (FL.pssx_cons (FL.psx_own sc_spread_amounts.nd (i := 2) rfl (by first | exact Or.inl rfl | exact Or.inr rfl) (FL.pnx_list (by rfl) T.n_list (FL.px_var 2))) (FL.pssx_cons (FL.psx_ownLcB (i := 4) (own := [("amount", 12)]) rfl sc_spread_amounts.nd rfl rfl (L2.sw_true rfl rfl rfl (by decide +kernel)) (FL.pix_any (FL.px_var 2)) (L2.blkOk_by (N := N_spread_amounts) (sc := L2.defScope s_spread_amounts) (by decide +kernel)) rfl (fun _ _ _ _ _ => (L2.pg_name (i := 12) sc_spread_amounts.nd rfl (by first | exact Or.inl rfl | exact Or.inr rfl))) (FL.tgx_n 12) (fun _ _ _ _ _ => FL.ptsx0) (fun _ _ _ _ _ => FL.px_non)) (FL.pssx_cons (FL.psx_set sc_spread_amounts.nd (i := 5) rfl (by first | exact Or.inl rfl | exact Or.inr rfl) FL.px_non) (FL.pssx_cons (FL.psx_for pa rfl (FL.pix_range1 (by rfl) T.n_range (FL.px_bor (FL.px_callB L2.call_len FL.len_ok (by rfl) T.n_len FL.bt_len (FL.pax_cons (FL.px_var 2) FL.pax_nil)))) (L2.pg_name (i := 6) sc_spread_amounts.nd rfl (by first | exact Or.inl rfl | exact Or.inr rfl)) (FL.tgx_n 6) (FL.pssx_cons (FL.psx_set sc_spread_amounts.nd (i := 5) rfl (by first | exact Or.inl rfl | exact Or.inr rfl) FL.px_non) (FL.pssx_cons (FL.psx_for pa rfl (FL.pix_enum (by rfl) T.n_enumerate (FL.px_var 3)) (L2.pg_tup rfl (L2.pgs_cons (L2.pg_name (i := 7) sc_spread_amounts.nd rfl (by first | exact Or.inl rfl | exact Or.inr rfl)) (L2.pgs_cons (L2.pg_tup rfl (L2.pgs_cons (L2.pg_name (i := 8) sc_spread_amounts.nd rfl (by first | exact Or.inl rfl | exact Or.inr rfl)) (L2.pgs_cons (L2.pg_name (i := 9) sc_spread_amounts.nd rfl (by first | exact Or.inl rfl | exact Or.inr rfl)) (L2.pgs_cons (L2.pg_name (i := 10) sc_spread_amounts.nd rfl (by first | exact Or.inl rfl | exact Or.inr rfl)) L2.pgs_nil)))) L2.pgs_nil))) (FL.tgx_tn 7 [8, 9, 10]) (FL.pssx_cons (FL.psx_if (FL.ptx_cmp L2.op_isN FL.isNon_ok (FL.px_ownIx 2 (FL.px_var 8)) FL.px_non (L2.nomark _)) (FL.pssx_one FL.psx_cnt) FL.pssx_nil) (FL.pssx_one (FL.psx_if (FL.PWX.pt (FL.pwx_or (FL.ptx_cmp L2.op_isN FL.isNon_ok (FL.px_ownIx 2 (FL.px_var 9)) FL.px_non (L2.nomark _)) (FL.pwx_or1 (FL.ptx_cmp L2.op_lt FL.lt_ok (FL.px_bin FL.op_addA FL.add_ok (FL.px_ownIx 2 (FL.px_var 8)) (FL.px_var 10)) (FL.px_ownIx 2 (FL.px_var 9)) (L2.nomark _))))) (FL.pssx_cons (FL.psx_item 2 (FL.px_bin FL.op_addA FL.add_ok (FL.px_ownIx 2 (FL.px_var 8)) (FL.px_var 10)) (FL.px_var 9) (L2.pg_sub (L2.pe_var (i := 2) rfl (by first | exact Or.inl rfl | exact Or.inr (Or.inl rfl) | exact Or.inr (Or.inr rfl))) (FL.px_var 9) L2.set_list)) (FL.pssx_cons (FL.psx_item 4 (FL.px_var 7) (FL.px_var 9) (L2.pg_sub (L2.pe_var (i := 4) rfl (by first | exact Or.inl rfl | exact Or.inr (Or.inl rfl) | exact Or.inr (Or.inr rfl))) (FL.px_var 9) L2.set_list)) (FL.pssx_one (FL.psx_set sc_spread_amounts.nd (i := 5) rfl (by first | exact Or.inl rfl | exact Or.inr rfl) (FL.px_var 9))))) FL.pssx_nil)))) (FL.pssx_one (FL.psx_if (FL.ptx_cmp L2.op_isN FL.isNon_ok (FL.px_var 5) FL.px_non (L2.nomark _)) (FL.pssx_one FL.psx_brk) FL.pssx_nil))))) (FL.pssx_frz 2 (FL.pssx_frz 4 (FL.pssx_one (FL.psx_ret (FL.px_tup (FL.pax_cons (FL.px_var 2) (FL.pax_cons (FL.px_var 4) (FL.pax_cons (FL.px_var 5) FL.pax_nil))))))))))))))
abbrev N_NoCart___init__ : List Str := ["self", "ring"]
theorem sc_NoCart___init__ : L2.FnScope N_NoCart___init__ ["self", "ring"] (L2.defScope s_NoCart___init__) := ⟨rfl, rfl, rfl, by decide +kernel, rfl, by decide +kernel, by decide +kernel⟩
def F_NoCart___init__ : List D → M (List D) := initF 2 sNext [(eVar 1)]
theorem has_NoCart___init__ (T : Tx P K mg cm)  : FL.HasN P w K mg base cm "NoCart" 100 2 ["ring"] [[]] 1 F_NoCart___init__ :=
  FL.hasN_of (T.all.cf 100 (by decide +kernel)).makes (T.all.cf 100 (by decide +kernel)).kp T.x_100 T.m_NoCart___init__ sc_NoCart___init__ rfl rfl (by decide) (fun _ _ _ _ _ _ us hl => match us, hl with | [_, _], _ => rfl) (fun f cdv A outer s H E q hC ok hr => by have tk : L2N.Takes (L2.cxOf (L2N.CX P w) P w K mg base N_NoCart___init__ "NoCart.__init__" (L2.defScope s_NoCart___init__) f cdv A outer s H E) (fun cls d _ H' => E cls d H') := L2N.takes_of rfl rfl rfl rfl; have pa : PassesOwn (model P w) (L2.cxOf (L2N.CX P w) P w K mg base N_NoCart___init__ "NoCart.__init__" (L2.defScope s_NoCart___init__) f cdv A outer s H E).A (L2.cxOf (L2N.CX P w) P w K mg base N_NoCart___init__ "NoCart.__init__" (L2.defScope s_NoCart___init__) f cdv A outer s H E).env (L2.cxOf (L2N.CX P w) P w K mg base N_NoCart___init__ "NoCart.__init__" (L2.defScope s_NoCart___init__) f cdv A outer s H E).xe := L2.passes_of rfl; exact (FL.pin_end (c := ⟨cm, some (q.a, 0, q.dx), fun cls d _ H' => E cls d H'⟩) ok rfl (FL.pin_store (c := ⟨cm, some (q.a, 0, q.dx), fun cls d _ H' => E cls d H'⟩) rfl (Or.inl rfl) (by decide) (by decide) (by rw [hC]; exact (T.all.cf 100 (by decide +kernel)).cl) (by rw [hC]; exact (T.all.cf 100 (by decide +kernel)).no "ring" (by decide +kernel)) (by decide +kernel) (by decide +kernel) (FL.px_var 1) (by first | rfl | exact L2.sw_true rfl rfl rfl (by decide +kernel)) (FL.pin_nil (c := ⟨cm, some (q.a, 0, q.dx), fun cls d _ H' => E cls d H'⟩) _))))
abbrev N_ring_through : List Str := ["bounds", "lasts", "mark", "_", "ring", "at"]
theorem sc_ring_through : L2.FnScope N_ring_through ["bounds", "lasts", "mark"] (L2.defScope s_ring_through) := ⟨rfl, rfl, rfl, by decide +kernel, rfl, by decide +kernel, by decide +kernel⟩
def B_ring_through_0 : SF := (sSet 2 (eBin ixD (eBin ixD (eVar 0) (eBin ixD (eVar 1) (eVar 2))) (eC (.int 1))))
def B_ring_through_1 : SF := (sSeq (sSet 4 (eBin addD (eLst [(eBin ixD (eBin ixD (eVar 0) (eBin ixD (eVar 1) (eVar 5))) (eC (.int 0)))]) (eVar 4))) (sSeq (sSet 5 (eBin ixD (eBin ixD (eVar 0) (eBin ixD (eVar 1) (eVar 5))) (eC (.int 1)))) (sIf (tVal (eBin eqD (eVar 5) (eVar 2))) sBrk sNext)))
def F_ring_through : List D → M D := callF 6 (sSeq (sFor (iSeq (eVar 1)) (gN 3) B_ring_through_0) (sSeq (sSet 4 (eLst [])) (sSeq (sSet 5 (eVar 2)) (sSeq (sFor (iSeq (eVar 1)) (gN 3) B_ring_through_1) (sRet (eCall (un1 tupD) [(eVar 4)]))))))
theorem has_ring_through (T : Tx P K mg cm)  : FL.Has P w K mg base cm "ring_through" 2 ["bounds", "lasts", "mark"] [[]] [] 3 F_ring_through :=
  FL.has_of T.d_ring_through sc_ring_through rfl rfl (by decide) (fun _ _ _ _ _ _ us hl => match us, hl with | [_, _, _], _ => rfl) (fun f cdv A outer s H E q hr => by have tk : L2N.Takes (L2.cxOf (L2N.CX P w) P w K mg base N_ring_through "ring_through" (L2.defScope s_ring_through) f cdv A outer s H E) (fun cls d _ H' => E cls d H') := L2N.takes_of rfl rfl rfl rfl; have pa : PassesOwn (model P w) (L2.cxOf (L2N.CX P w) P w K mg base N_ring_through "ring_through" (L2.defScope s_ring_through) f cdv A outer s H E).A (L2.cxOf (L2N.CX P w) P w K mg base N_ring_through "ring_through" (L2.defScope s_ring_through) f cdv A outer s H E).env (L2.cxOf (L2N.CX P w) P w K mg base N_ring_through "ring_through" (L2.defScope s_ring_through) f cdv A outer s H E).xe := L2.passes_of rfl; exact (FL.pssx_cons (FL.psx_for pa rfl (FL.pix_any (FL.px_var 1)) (L2.pg_name (i := 3) sc_ring_through.nd rfl (by first | exact Or.inl rfl | exact Or.inr rfl)) (FL.tgx_n 3) (FL.pssx_one (FL.psx_set sc_ring_through.nd (i := 2) rfl (by first | exact Or.inl rfl | exact Or.inr rfl) (FL.px_ix (FL.px_ix (FL.px_var 0) (FL.px_ix (FL.px_var 1) (FL.px_var 2))) FL.px_int)))) (FL.pssx_cons (FL.psx_set sc_ring_through.nd (i := 4) rfl (by first | exact Or.inl rfl | exact Or.inr rfl) (FL.px_lst FL.pax_nil)) (FL.pssx_cons (FL.psx_set sc_ring_through.nd (i := 5) rfl (by first | exact Or.inl rfl | exact Or.inr rfl) (FL.px_var 2)) (FL.pssx_cons (FL.psx_for pa rfl (FL.pix_any (FL.px_var 1)) (L2.pg_name (i := 3) sc_ring_through.nd rfl (by first | exact Or.inl rfl | exact Or.inr rfl)) (FL.tgx_n 3) (FL.pssx_cons (FL.psx_set sc_ring_through.nd (i := 4) rfl (by first | exact Or.inl rfl | exact Or.inr rfl) (FL.px_bin FL.op_addA FL.add_ok (FL.px_lst (FL.pax_cons (FL.px_ix (FL.px_ix (FL.px_var 0) (FL.px_ix (FL.px_var 1) (FL.px_var 5))) FL.px_int) FL.pax_nil)) (FL.px_var 4))) (FL.pssx_cons (FL.psx_set sc_ring_through.nd (i := 5) rfl (by first | exact Or.inl rfl | exact Or.inr rfl) (FL.px_ix (FL.px_ix (FL.px_var 0) (FL.px_ix (FL.px_var 1) (FL.px_var 5))) FL.px_int)) (FL.pssx_one (FL.psx_if (FL.ptx_cmp (L2.op_eqD (FL.hu64 hr)) FL.eq_ok (FL.px_var 5) (FL.px_var 2) (L2.nomark _)) (FL.pssx_one FL.psx_brk) FL.pssx_nil))))) (FL.pssx_one (FL.psx_ret (FL.px_callTy L2.call_tuple_of FL.tuple_ok (by rfl) T.n_tuple FL.bt_tuple (FL.pax_cons (FL.px_var 4) FL.pax_nil)))))))))
abbrev N__lowest : List Str := ["top", "bottom", "part"]
theorem sc__lowest : L2.FnScope N__lowest ["top", "bottom"] (L2.defScope s__lowest) := ⟨rfl, rfl, rfl, by decide +kernel, rfl, by decide +kernel, by decide +kernel⟩
def F__lowest : List D → M D := callF 3 (sSeq (sIf (tVal (eBin ltD (eVar 1) (eC (.int 0)))) (sSeq (sSet 0 (eUn negD (eVar 0))) (sSet 1 (eUn negD (eVar 1)))) sNext) (sSeq (sSet 2 (eCall (bin2 gcdD) [(eVar 0), (eVar 1)])) (sRet (eTup [(eBin fdivD (eVar 0) (eVar 2)), (eBin fdivD (eVar 1) (eVar 2))]))))
theorem has__lowest (T : Tx P K mg cm)  : FL.Has P w K mg base cm "_lowest" 2 ["top", "bottom"] [[]] [] 2 F__lowest :=
  FL.has_of T.d__lowest sc__lowest rfl rfl (by decide) (fun _ _ _ _ _ _ us hl => match us, hl with | [_, _], _ => rfl) (fun f cdv A outer s H E q hr => by have tk : L2N.Takes (L2.cxOf (L2N.CX P w) P w K mg base N__lowest "_lowest" (L2.defScope s__lowest) f cdv A outer s H E) (fun cls d _ H' => E cls d H') := L2N.takes_of rfl rfl rfl rfl; have pa : PassesOwn (model P w) (L2.cxOf (L2N.CX P w) P w K mg base N__lowest "_lowest" (L2.defScope s__lowest) f cdv A outer s H E).A (L2.cxOf (L2N.CX P w) P w K mg base N__lowest "_lowest" (L2.defScope s__lowest) f cdv A outer s H E).env (L2.cxOf (L2N.CX P w) P w K mg base N__lowest "_lowest" (L2.defScope s__lowest) f cdv A outer s H E).xe := L2.passes_of rfl; exact (FL.pssx_cons (FL.psx_if (FL.ptx_cmp L2.op_lt FL.lt_ok (FL.px_var 1) FL.px_int (L2.nomark _)) (FL.pssx_cons (FL.psx_set sc__lowest.nd (i := 0) rfl (by first | exact Or.inl rfl | exact Or.inr rfl) (FL.px_un L2.un_neg FL.neg_ok (FL.px_var 0))) (FL.pssx_one (FL.psx_set sc__lowest.nd (i := 1) rfl (by first | exact Or.inl rfl | exact Or.inr rfl) (FL.px_un L2.un_neg FL.neg_ok (FL.px_var 1))))) FL.pssx_nil) (FL.pssx_cons (FL.psx_set sc__lowest.nd (i := 2) rfl (by first | exact Or.inl rfl | exact Or.inr rfl) (FL.px_callF L2.cr_gcd FL.gcd_ok (by rfl) T.g_gcd (FL.pax_cons (FL.px_var 0) (FL.pax_cons (FL.px_var 1) FL.pax_nil)))) (FL.pssx_one (FL.psx_ret (FL.px_tup (FL.pax_cons (FL.px_bin FL.op_fdivZ FL.fdiv_ok (FL.px_var 0) (FL.px_var 2)) (FL.pax_cons (FL.px_bin FL.op_fdivZ FL.fdiv_ok (FL.px_var 1) (FL.px_var 2)) FL.pax_nil))))))))
abbrev N_make_ratio : List Str := ["top", "bottom"]
theorem sc_make_ratio : L2.FnScope N_make_ratio ["top", "bottom"] (L2.defScope s_make_ratio) := ⟨rfl, rfl, rfl, by decide +kernel, rfl, by decide +kernel, by decide +kernel⟩
def F_make_ratio : List D → M D := callF 2 (sSeq (sIf (tNot (tTru (eCall (fun ds => F_is_whole (ds ++ [.non, .non])) [(eVar 0)]))) (sRaise 1 ["what"] [(eC (.str "top"))]) sNext) (sSeq (sIf (tOr (tNot (tTru (eCall (fun ds => F_is_whole (ds ++ [.non, .non])) [(eVar 1)]))) (tVal (eBin eqD (eVar 1) (eC (.int 0))))) (sRaise 1 ["what"] [(eC (.str "bottom"))]) sNext) (sRet (eCall F__lowest [(eVar 0), (eVar 1)]))))
theorem has_make_ratio (T : Tx P K mg cm) (G__lowest : FL.Has P w K mg base cm "_lowest" 2 ["top", "bottom"] [[]] [] 2 F__lowest) (G_is_whole : FL.Has P w K mg base cm "is_whole" 2 ["thing", "low", "high"] [[.non, .non], [.non], []] [] 3 F_is_whole) : FL.Has P w K mg base cm "make_ratio" 3 ["top", "bottom"] [[]] [] 2 F_make_ratio :=
  FL.has_ofD (dds := [(.int 1)]) (dvs := [(.int 1)]) T.d_make_ratio sc_make_ratio rfl rfl (by decide) (by simp) (by intros; simp [FL.RepL, FL.Rep]) (fun e he => by rw [List.mem_singleton.mp he]; exact ⟨2, 1, rfl, rfl, fun T kV doc pm an cdv ct us its hl hi => match us, its, hl, hi with | [_, _], [_], _, _ => ⟨_, rfl, rfl⟩⟩) (fun e he => by cases he) (fun f cdv A outer s H E q hr => by have tk : L2N.Takes (L2.cxOf (L2N.CX P w) P w K mg base N_make_ratio "make_ratio" (L2.defScope s_make_ratio) f cdv A outer s H E) (fun cls d _ H' => E cls d H') := L2N.takes_of rfl rfl rfl rfl; have pa : PassesOwn (model P w) (L2.cxOf (L2N.CX P w) P w K mg base N_make_ratio "make_ratio" (L2.defScope s_make_ratio) f cdv A outer s H E).A (L2.cxOf (L2N.CX P w) P w K mg base N_make_ratio "make_ratio" (L2.defScope s_make_ratio) f cdv A outer s H E).env (L2.cxOf (L2N.CX P w) P w K mg base N_make_ratio "make_ratio" (L2.defScope s_make_ratio) f cdv A outer s H E).xe := L2.passes_of rfl; exact (FL.pssx_cons (FL.psx_if (FL.ptx_not (FL.ptx_tru (FL.px_hasD [.non, .non] G_is_whole (hr.mono (by decide)) tk (by rfl) (FL.pax_cons (FL.px_var 0) FL.pax_nil)))) (FL.pssx_one (FL.psx_raiseH 1 (T.exc_1) rfl rfl tk (hr.mono (by decide)) (by rfl) (FL.pax_cons FL.px_str FL.pax_nil))) FL.pssx_nil) (FL.pssx_cons (FL.psx_if (FL.PWX.pt (FL.pwx_or (FL.ptx_not (FL.ptx_tru (FL.px_hasD [.non, .non] G_is_whole (hr.mono (by decide)) tk (by rfl) (FL.pax_cons (FL.px_var 1) FL.pax_nil)))) (FL.pwx_or1 (FL.ptx_cmp (L2.op_eqD (FL.hu64 hr)) FL.eq_ok (FL.px_var 1) FL.px_int (L2.nomark _))))) (FL.pssx_one (FL.psx_raiseH 1 (T.exc_1) rfl rfl tk (hr.mono (by decide)) (by rfl) (FL.pax_cons FL.px_str FL.pax_nil))) FL.pssx_nil) (FL.pssx_one (FL.psx_ret (FL.px_has G__lowest (hr.mono (by decide)) tk (by rfl) (FL.pax_cons (FL.px_var 0) (FL.pax_cons (FL.px_var 1) FL.pax_nil))))))))
abbrev N_weights_by : List Str := ["count", "tellings", "bounds", "bottom", "amounts", "lasts", "falling", "mark", "axle"]
theorem sc_weights_by : L2.FnScope N_weights_by ["count", "tellings"] (L2.defScope s_weights_by) := ⟨rfl, rfl, rfl, by decide +kernel, rfl, by decide +kernel, by decide +kernel⟩
def F_weights_by : List D → M D := callF 9 (sSeq (sSet 2 (eCall F_bounds_by [(eVar 0), (eVar 1)])) (sSeq (sSet 3 (eCall F_bottom_of [(eVar 2)])) (sSeq (sUnp [4, 5, 6] (eCall F_spread_amounts [(eVar 2), (eVar 3), (eNew (nLc (iRng (eC (.int 0)) (eBin addD (eVar 0) (eC (.int 1)))) [7] (gN 7) tYes (eC (.int 0))))])) (sSeq (sIf (tVal (eBin notNonD (eVar 6) (eC .non))) (sRet (eMake 100 ["ring"] (fun ds => F_NoCart___init__ (ds ++ [])) [(eCall F_ring_through [(eVar 2), (eVar 5), (eVar 6)])])) sNext) (sRet (eCall (un1 tupD) [(eNew (nLc (iRng (eC (.int 0)) (eVar 0)) [8] (gN 8) tYes (eCall F_make_ratio [(eBin subD (eBin ixD (eVar 4) (eBin addD (eVar 8) (eC (.int 1)))) (eBin ixD (eVar 4) (eVar 8))), (eVar 3)])))]))))))
theorem has_weights_by (T : Tx P K mg cm) (G_NoCart___init__ : FL.HasN P w K mg base cm "NoCart" 100 2 ["ring"] [[]] 1 F_NoCart___init__) (G_bottom_of : FL.Has P w K mg base cm "bottom_of" 2 ["bounds"] [[]] [] 1 F_bottom_of) (G_bounds_by : FL.Has P w K mg base cm "bounds_by" 3 ["count", "tellings"] [[]] [] 2 F_bounds_by) (G_make_ratio : FL.Has P w K mg base cm "make_ratio" 3 ["top", "bottom"] [[]] [] 2 F_make_ratio) (G_ring_through : FL.Has P w K mg base cm "ring_through" 2 ["bounds", "lasts", "mark"] [[]] [] 3 F_ring_through) (G_spread_amounts : FL.Has P w K mg base cm "spread_amounts" 2 ["bounds", "bottom", "amounts"] [[]] [] 3 F_spread_amounts) : FL.Has P w K mg base cm "weights_by" 4 ["count", "tellings"] [[]] [] 2 F_weights_by :=
  FL.has_of T.d_weights_by sc_weights_by rfl rfl (by decide) (fun _ _ _ _ _ _ us hl => match us, hl with | [_, _], _ => rfl) (fun f cdv A outer s H E q hr => by have tk : L2N.Takes (L2.cxOf (L2N.CX P w) P w K mg base N_weights_by "weights_by" (L2.defScope s_weights_by) f cdv A outer s H E) (fun cls d _ H' => E cls d H') := L2N.takes_of rfl rfl rfl rfl; have pa : PassesOwn (model P w) (L2.cxOf (L2N.CX P w) P w K mg base N_weights_by "weights_by" (L2.defScope s_weights_by) f cdv A outer s H E).A (L2.cxOf (L2N.CX P w) P w K mg base N_weights_by "weights_by" (L2.defScope s_weights_by) f cdv A outer s H E).env (L2.cxOf (L2N.CX P w) P w K mg base N_weights_by "weights_by" (L2.defScope s_weights_by) f cdv A outer s H E).xe := L2.passes_of rfl; exact (FL.pssx_cons (FL.psx_set sc_weights_by.nd (i := 2) rfl (by first | exact Or.inl rfl | exact Or.inr rfl) (FL.px_has G_bounds_by (hr.mono (by decide)) tk (by rfl) (FL.pax_cons (FL.px_var 0) (FL.pax_cons (FL.px_var 1) FL.pax_nil)))) (FL.pssx_cons (FL.psx_set sc_weights_by.nd (i := 3) rfl (by first | exact Or.inl rfl | exact Or.inr rfl) (FL.px_has G_bottom_of (hr.mono (by decide)) tk (by rfl) (FL.pax_cons (FL.px_var 2) FL.pax_nil))) (FL.pssx_cons (FL.psx_unp (is := [4, 5, 6]) (FL.px_has G_spread_amounts (hr.mono (by decide)) tk (by rfl) (FL.pax_cons (FL.px_var 2) (FL.pax_cons (FL.px_var 3) (FL.pax_cons (FL.px_new (FL.pnx_lcE (own := [("mark", 7)]) rfl sc_weights_by.nd (FL.pix_range1 (by rfl) T.n_range (FL.px_bin FL.op_addA FL.add_ok (FL.px_var 0) FL.px_int)) (L2.blkOk_by (N := N_weights_by) (sc := L2.defScope s_weights_by) (by decide +kernel)) rfl (fun _ _ _ _ _ => (L2.pg_name (i := 7) sc_weights_by.nd rfl (by first | exact Or.inl rfl | exact Or.inr rfl))) (FL.tgx_n 7) (fun _ _ _ _ _ => FL.ptsx0) (fun _ _ _ _ _ => FL.px_int))) FL.pax_nil)))) (L2.pg_tup rfl (L2.pgs_cons (L2.pg_name (i := 4) sc_weights_by.nd rfl (by first | exact Or.inl rfl | exact Or.inr rfl)) (L2.pgs_cons (L2.pg_name (i := 5) sc_weights_by.nd rfl (by first | exact Or.inl rfl | exact Or.inr rfl)) (L2.pgs_cons (L2.pg_name (i := 6) sc_weights_by.nd rfl (by first | exact Or.inl rfl | exact Or.inr rfl)) L2.pgs_nil))))) (FL.pssx_cons (FL.psx_if (FL.ptx_cmp L2.op_notN FL.notNon_ok (FL.px_var 6) FL.px_non (L2.nomark _)) (FL.pssx_one (FL.psx_ret (FL.px_hasN [] G_NoCart___init__ (hr.mono (by decide)) tk (by rfl) (FL.pax_cons (FL.px_has G_ring_through (hr.mono (by decide)) tk (by rfl) (FL.pax_cons (FL.px_var 2) (FL.pax_cons (FL.px_var 5) (FL.pax_cons (FL.px_var 6) FL.pax_nil)))) FL.pax_nil)))) FL.pssx_nil) (FL.pssx_one (FL.psx_ret (FL.px_callTy L2.call_tuple_of FL.tuple_ok (by rfl) T.n_tuple FL.bt_tuple (FL.pax_cons (FL.px_new (FL.pnx_lcE (own := [("axle", 8)]) rfl sc_weights_by.nd (FL.pix_range1 (by rfl) T.n_range (FL.px_var 0)) (L2.blkOk_by (N := N_weights_by) (sc := L2.defScope s_weights_by) (by decide +kernel)) rfl (fun _ _ _ _ _ => (L2.pg_name (i := 8) sc_weights_by.nd rfl (by first | exact Or.inl rfl | exact Or.inr rfl))) (FL.tgx_n 8) (fun _ _ _ _ _ => FL.ptsx0) (fun _ _ _ _ _ => (FL.px_has G_make_ratio (hr.mono (by decide)) FL.takes0N (by rfl) (FL.pax_cons (FL.px_bin L2.op_sub FL.sub_ok (FL.px_ix (FL.px_var 4) (FL.px_bin FL.op_addA FL.add_ok (FL.px_var 8) FL.px_int)) (FL.px_ix (FL.px_var 4) (FL.px_var 8))) (FL.pax_cons (FL.px_var 3) FL.pax_nil)))))) FL.pax_nil)))))))))
abbrev N_check_fit : List Str := ["count", "tellings"]
theorem sc_check_fit : L2.FnScope N_check_fit ["count", "tellings"] (L2.defScope s_check_fit) := ⟨rfl, rfl, rfl, by decide +kernel, rfl, by decide +kernel, by decide +kernel⟩
def F_check_fit : List D → M D := callF 2 (sIf (tTru (eUn (isiO cs_ 100) (eCall F_weights_by [(eVar 0), (eVar 1)]))) (sRaise 7 ["many"] [(eCall (un1 lenD) [(eVar 1)])]) sNext)
theorem has_check_fit (T : Tx P K mg cm) (G_weights_by : FL.Has P w K mg base cm "weights_by" 4 ["count", "tellings"] [[]] [] 2 F_weights_by) : FL.Has P w K mg base cm "check_fit" 5 ["count", "tellings"] [[]] [] 2 F_check_fit :=
  FL.has_of T.d_check_fit sc_check_fit rfl rfl (by decide) (fun _ _ _ _ _ _ us hl => match us, hl with | [_, _], _ => rfl) (fun f cdv A outer s H E q hr => by have tk : L2N.Takes (L2.cxOf (L2N.CX P w) P w K mg base N_check_fit "check_fit" (L2.defScope s_check_fit) f cdv A outer s H E) (fun cls d _ H' => E cls d H') := L2N.takes_of rfl rfl rfl rfl; have pa : PassesOwn (model P w) (L2.cxOf (L2N.CX P w) P w K mg base N_check_fit "check_fit" (L2.defScope s_check_fit) f cdv A outer s H E).A (L2.cxOf (L2N.CX P w) P w K mg base N_check_fit "check_fit" (L2.defScope s_check_fit) f cdv A outer s H E).env (L2.cxOf (L2N.CX P w) P w K mg base N_check_fit "check_fit" (L2.defScope s_check_fit) f cdv A outer s H E).xe := L2.passes_of rfl; exact (FL.pssx_one (FL.psx_if (FL.ptx_tru (FL.px_isiA 100 T.all (by decide +kernel) (by rfl) T.n_isinstance (by rfl) T.x_100 (FL.px_has G_weights_by (hr.mono (by decide)) tk (by rfl) (FL.pax_cons (FL.px_var 0) (FL.pax_cons (FL.px_var 1) FL.pax_nil))))) (FL.pssx_one (FL.psx_raiseH 7 (T.exc_7) rfl rfl tk (hr.mono (by decide)) (by rfl) (FL.pax_cons (FL.px_callB L2.call_len FL.len_ok (by rfl) T.n_len FL.bt_len (FL.pax_cons (FL.px_var 1) FL.pax_nil)) FL.pax_nil))) FL.pssx_nil)))
abbrev N_trail_back : List Str := ["bounds", "lasts", "mark", "trail", "_"]
theorem sc_trail_back : L2.FnScope N_trail_back ["bounds", "lasts", "mark"] (L2.defScope s_trail_back) := ⟨rfl, rfl, rfl, by decide +kernel, rfl, by decide +kernel, by decide +kernel⟩
def B_trail_back_0 : SF := (sSeq (sIf (tVal (eBin isNonD (eBin ixD (eVar 1) (eVar 2)) (eC .non))) sBrk sNext) (sSeq (sSet 3 (eBin addD (eLst [(eBin ixD (eBin ixD (eVar 0) (eBin ixD (eVar 1) (eVar 2))) (eC (.int 0)))]) (eVar 3))) (sSet 2 (eBin ixD (eBin ixD (eVar 0) (eBin ixD (eVar 1) (eVar 2))) (eC (.int 1))))))
theorem B_trail_back_0_w {ρ : FL.Env} {w : Wd} : B_trail_back_0 ρ w = (sSeq (sIf (tVal (eBin isNonD (eBin ixD (eVar 1) (eVar 2)) (eC .non))) sBrk sNext) (sSeq (sSet 3 (eBin addD (eLst [(eBin ixD (eBin ixD (eVar 0) (eBin ixD (eVar 1) (eVar 2))) (eC (.int 0)))]) (eVar 3))) (sSet 2 (eBin ixD (eBin ixD (eVar 0) (eBin ixD (eVar 1) (eVar 2))) (eC (.int 1)))))) ρ w := rfl
def F_trail_back : List D → M D := callF 5 (sSeq (sSet 3 (eLst [])) (sSeq (sFor (iSeq (eVar 1)) (gN 4) B_trail_back_0) (sRet (eCall (un1 tupD) [(eVar 3)]))))
theorem has_trail_back (T : Tx P K mg cm)  : FL.Has P w K mg base cm "trail_back" 2 ["bounds", "lasts", "mark"] [[]] [] 3 F_trail_back :=
  FL.has_of T.d_trail_back sc_trail_back rfl rfl (by decide) (fun _ _ _ _ _ _ us hl => match us, hl with | [_, _, _], _ => rfl) (fun f cdv A outer s H E q hr => by have tk : L2N.Takes (L2.cxOf (L2N.CX P w) P w K mg base N_trail_back "trail_back" (L2.defScope s_trail_back) f cdv A outer s H E) (fun cls d _ H' => E cls d H') := L2N.takes_of rfl rfl rfl rfl; have pa : PassesOwn (model P w) (L2.cxOf (L2N.CX P w) P w K mg base N_trail_back "trail_back" (L2.defScope s_trail_back) f cdv A outer s H E).A (L2.cxOf (L2N.CX P w) P w K mg base N_trail_back "trail_back" (L2.defScope s_trail_back) f cdv A outer s H E).env (L2.cxOf (L2N.CX P w) P w K mg base N_trail_back "trail_back" (L2.defScope s_trail_back) f cdv A outer s H E).xe := L2.passes_of rfl; exact (FL.pssx_cons (FL.psx_set sc_trail_back.nd (i := 3) rfl (by first | exact Or.inl rfl | exact Or.inr rfl) (FL.px_lst FL.pax_nil)) (FL.pssx_cons (FL.psx_for pa rfl (FL.pix_any (FL.px_var 1)) (L2.pg_name (i := 4) sc_trail_back.nd rfl (by first | exact Or.inl rfl | exact Or.inr rfl)) (FL.tgx_n 4) (FL.pssx_cons (FL.psx_if (FL.ptx_cmp L2.op_isN FL.isNon_ok (FL.px_ix (FL.px_var 1) (FL.px_var 2)) FL.px_non (L2.nomark _)) (FL.pssx_one FL.psx_brk) FL.pssx_nil) (FL.pssx_cons (FL.psx_set sc_trail_back.nd (i := 3) rfl (by first | exact Or.inl rfl | exact Or.inr rfl) (FL.px_bin FL.op_addA FL.add_ok (FL.px_lst (FL.pax_cons (FL.px_ix (FL.px_ix (FL.px_var 0) (FL.px_ix (FL.px_var 1) (FL.px_var 2))) FL.px_int) FL.pax_nil)) (FL.px_var 3))) (FL.pssx_one (FL.psx_set sc_trail_back.nd (i := 2) rfl (by first | exact Or.inl rfl | exact Or.inr rfl) (FL.px_ix (FL.px_ix (FL.px_var 0) (FL.px_ix (FL.px_var 1) (FL.px_var 2))) FL.px_int)))))) (FL.pssx_one (FL.psx_ret (FL.px_callTy L2.call_tuple_of FL.tuple_ok (by rfl) T.n_tuple FL.bt_tuple (FL.pax_cons (FL.px_var 3) FL.pax_nil)))))))
abbrev N_farthest_sum : List Str := ["count", "tellings", "begin", "end", "bounds", "bottom", "start", "amounts", "lasts", "falling", "mark"]
theorem sc_farthest_sum : L2.FnScope N_farthest_sum ["count", "tellings", "begin", "end"] (L2.defScope s_farthest_sum) := ⟨rfl, rfl, rfl, by decide +kernel, rfl, by decide +kernel, by decide +kernel⟩
def F_farthest_sum : List D → M D := callF 11 (sSeq (sSet 4 (eCall F_bounds_by [(eVar 0), (eVar 1)])) (sSeq (sSet 5 (eCall F_bottom_of [(eVar 4)])) (sSeq (sSet 6 (eNew (nLc (iRng (eC (.int 0)) (eBin addD (eVar 0) (eC (.int 1)))) [10] (gN 10) tYes (eIf (tVal (eBin eqD (eVar 10) (eVar 2))) (eC (.int 0)) (eC .non))))) (sSeq (sUnp [7, 8, 9] (eCall F_spread_amounts [(eVar 4), (eVar 5), (eVar 6)])) (sSeq (sIf (tVal (eBin isNonD (eBin ixD (eVar 7) (eVar 3)) (eC .non))) (sRet (eC .non)) sNext) (sRet (eTup [(eCall F_make_ratio [(eBin ixD (eVar 7) (eVar 3)), (eVar 5)]), (eCall F_trail_back [(eVar 4), (eVar 8), (eVar 3)])])))))))
theorem has_farthest_sum (T : Tx P K mg cm) (G_bottom_of : FL.Has P w K mg base cm "bottom_of" 2 ["bounds"] [[]] [] 1 F_bottom_of) (G_bounds_by : FL.Has P w K mg base cm "bounds_by" 3 ["count", "tellings"] [[]] [] 2 F_bounds_by) (G_make_ratio : FL.Has P w K mg base cm "make_ratio" 3 ["top", "bottom"] [[]] [] 2 F_make_ratio) (G_spread_amounts : FL.Has P w K mg base cm "spread_amounts" 2 ["bounds", "bottom", "amounts"] [[]] [] 3 F_spread_amounts) (G_trail_back : FL.Has P w K mg base cm "trail_back" 2 ["bounds", "lasts", "mark"] [[]] [] 3 F_trail_back) : FL.Has P w K mg base cm "farthest_sum" 4 ["count", "tellings", "begin", "end"] [[]] [] 4 F_farthest_sum :=
  FL.has_of T.d_farthest_sum sc_farthest_sum rfl rfl (by decide) (fun _ _ _ _ _ _ us hl => match us, hl with | [_, _, _, _], _ => rfl) (fun f cdv A outer s H E q hr => by have tk : L2N.Takes (L2.cxOf (L2N.CX P w) P w K mg base N_farthest_sum "farthest_sum" (L2.defScope s_farthest_sum) f cdv A outer s H E) (fun cls d _ H' => E cls d H') := L2N.takes_of rfl rfl rfl rfl; have pa : PassesOwn (model P w) (L2.cxOf (L2N.CX P w) P w K mg base N_farthest_sum "farthest_sum" (L2.defScope s_farthest_sum) f cdv A outer s H E).A (L2.cxOf (L2N.CX P w) P w K mg base N_farthest_sum "farthest_sum" (L2.defScope s_farthest_sum) f cdv A outer s H E).env (L2.cxOf (L2N.CX P w) P w K mg base N_farthest_sum "farthest_sum" (L2.defScope s_farthest_sum) f cdv A outer s H E).xe := L2.passes_of rfl; exact (FL.pssx_cons (FL.psx_set sc_farthest_sum.nd (i := 4) rfl (by first | exact Or.inl rfl | exact Or.inr rfl) (FL.px_has G_bounds_by (hr.mono (by decide)) tk (by rfl) (FL.pax_cons (FL.px_var 0) (FL.pax_cons (FL.px_var 1) FL.pax_nil)))) (FL.pssx_cons (FL.psx_set sc_farthest_sum.nd (i := 5) rfl (by first | exact Or.inl rfl | exact Or.inr rfl) (FL.px_has G_bottom_of (hr.mono (by decide)) tk (by rfl) (FL.pax_cons (FL.px_var 4) FL.pax_nil))) (FL.pssx_cons (FL.psx_setLc (i := 6) (own := [("mark", 10)]) rfl sc_farthest_sum.nd rfl rfl (L2.sw_true rfl rfl rfl (by decide +kernel)) (FL.pix_range1 (by rfl) T.n_range (FL.px_bin FL.op_addA FL.add_ok (FL.px_var 0) FL.px_int)) (L2.blkOk_by (N := N_farthest_sum) (sc := L2.defScope s_farthest_sum) (by decide +kernel)) rfl (fun _ _ _ _ _ => (L2.pg_name (i := 10) sc_farthest_sum.nd rfl (by first | exact Or.inl rfl | exact Or.inr rfl))) (FL.tgx_n 10) (fun _ _ _ _ _ => FL.ptsx0) (fun _ _ _ _ _ => (FL.px_if (FL.ptx_cmp (L2.op_eqD (FL.hu64 hr)) FL.eq_ok (FL.px_var 10) (FL.px_var 2) (L2.nomark _)) FL.px_int FL.px_non))) (FL.pssx_cons (FL.psx_unp (is := [7, 8, 9]) (FL.px_has G_spread_amounts (hr.mono (by decide)) tk (by rfl) (FL.pax_cons (FL.px_var 4) (FL.pax_cons (FL.px_var 5) (FL.pax_cons (FL.px_var 6) FL.pax_nil)))) (L2.pg_tup rfl (L2.pgs_cons (L2.pg_name (i := 7) sc_farthest_sum.nd rfl (by first | exact Or.inl rfl | exact Or.inr rfl)) (L2.pgs_cons (L2.pg_name (i := 8) sc_farthest_sum.nd rfl (by first | exact Or.inl rfl | exact Or.inr rfl)) (L2.pgs_cons (L2.pg_name (i := 9) sc_farthest_sum.nd rfl (by first | exact Or.inl rfl | exact Or.inr rfl)) L2.pgs_nil))))) (FL.pssx_cons (FL.psx_if (FL.ptx_cmp L2.op_isN FL.isNon_ok (FL.px_ix (FL.px_var 7) (FL.px_var 3)) FL.px_non (L2.nomark _)) (FL.pssx_one (FL.psx_ret FL.px_non)) FL.pssx_nil) (FL.pssx_one (FL.psx_ret (FL.px_tup (FL.pax_cons (FL.px_has G_make_ratio (hr.mono (by decide)) tk (by rfl) (FL.pax_cons (FL.px_ix (FL.px_var 7) (FL.px_var 3)) (FL.pax_cons (FL.px_var 5) FL.pax_nil))) (FL.pax_cons (FL.px_has G_trail_back (hr.mono (by decide)) tk (by rfl) (FL.pax_cons (FL.px_var 4) (FL.pax_cons (FL.px_var 8) (FL.pax_cons (FL.px_var 3) FL.pax_nil)))) FL.pax_nil)))))))))))
abbrev N_SumBounds___init__ : List Str := ["self", "least", "most", "least_trail", "most_trail"]
theorem sc_SumBounds___init__ : L2.FnScope N_SumBounds___init__ ["self", "least", "most", "least_trail", "most_trail"] (L2.defScope s_SumBounds___init__) := ⟨rfl, rfl, rfl, by decide +kernel, rfl, by decide +kernel, by decide +kernel⟩
def F_SumBounds___init__ : List D → M (List D) := initF 5 sNext [(eVar 1), (eVar 2), (eVar 3), (eVar 4)]
theorem has_SumBounds___init__ (T : Tx P K mg cm)  : FL.HasN P w K mg base cm "SumBounds" 101 2 ["least", "most", "least_trail", "most_trail"] [[]] 4 F_SumBounds___init__ :=
  FL.hasN_of (T.all.cf 101 (by decide +kernel)).makes (T.all.cf 101 (by decide +kernel)).kp T.x_101 T.m_SumBounds___init__ sc_SumBounds___init__ rfl rfl (by decide) (fun _ _ _ _ _ _ us hl => match us, hl with | [_, _, _, _, _], _ => rfl) (fun f cdv A outer s H E q hC ok hr => by have tk : L2N.Takes (L2.cxOf (L2N.CX P w) P w K mg base N_SumBounds___init__ "SumBounds.__init__" (L2.defScope s_SumBounds___init__) f cdv A outer s H E) (fun cls d _ H' => E cls d H') := L2N.takes_of rfl rfl rfl rfl; have pa : PassesOwn (model P w) (L2.cxOf (L2N.CX P w) P w K mg base N_SumBounds___init__ "SumBounds.__init__" (L2.defScope s_SumBounds___init__) f cdv A outer s H E).A (L2.cxOf (L2N.CX P w) P w K mg base N_SumBounds___init__ "SumBounds.__init__" (L2.defScope s_SumBounds___init__) f cdv A outer s H E).env (L2.cxOf (L2N.CX P w) P w K mg base N_SumBounds___init__ "SumBounds.__init__" (L2.defScope s_SumBounds___init__) f cdv A outer s H E).xe := L2.passes_of rfl; exact (FL.pin_end (c := ⟨cm, some (q.a, 0, q.dx), fun cls d _ H' => E cls d H'⟩) ok rfl (FL.pin_store (c := ⟨cm, some (q.a, 0, q.dx), fun cls d _ H' => E cls d H'⟩) rfl (Or.inl rfl) (by decide) (by decide) (by rw [hC]; exact (T.all.cf 101 (by decide +kernel)).cl) (by rw [hC]; exact (T.all.cf 101 (by decide +kernel)).no "least" (by decide +kernel)) (by decide +kernel) (by decide +kernel) (FL.px_var 1) (by first | rfl | exact L2.sw_true rfl rfl rfl (by decide +kernel)) (FL.pin_store (c := ⟨cm, some (q.a, 0, q.dx), fun cls d _ H' => E cls d H'⟩) rfl (Or.inl rfl) (by decide) (by decide) (by rw [hC]; exact (T.all.cf 101 (by decide +kernel)).cl) (by rw [hC]; exact (T.all.cf 101 (by decide +kernel)).no "most" (by decide +kernel)) (by decide +kernel) (by decide +kernel) (FL.px_var 2) (by first | rfl | exact L2.sw_true rfl rfl rfl (by decide +kernel)) (FL.pin_store (c := ⟨cm, some (q.a, 0, q.dx), fun cls d _ H' => E cls d H'⟩) rfl (Or.inl rfl) (by decide) (by decide) (by rw [hC]; exact (T.all.cf 101 (by decide +kernel)).cl) (by rw [hC]; exact (T.all.cf 101 (by decide +kernel)).no "least_trail" (by decide +kernel)) (by decide +kernel) (by decide +kernel) (FL.px_var 3) (by first | rfl | exact L2.sw_true rfl rfl rfl (by decide +kernel)) (FL.pin_store (c := ⟨cm, some (q.a, 0, q.dx), fun cls d _ H' => E cls d H'⟩) rfl (Or.inl rfl) (by decide) (by decide) (by rw [hC]; exact (T.all.cf 101 (by decide +kernel)).cl) (by rw [hC]; exact (T.all.cf 101 (by decide +kernel)).no "most_trail" (by decide +kernel)) (by decide +kernel) (by decide +kernel) (FL.px_var 4) (by first | rfl | exact L2.sw_true rfl rfl rfl (by decide +kernel)) (FL.pin_nil (c := ⟨cm, some (q.a, 0, q.dx), fun cls d _ H' => E cls d H'⟩) _)))))))
abbrev N_bounds_between : List Str := ["count", "tellings", "low", "high", "back", "onward"]
theorem sc_bounds_between : L2.FnScope N_bounds_between ["count", "tellings", "low", "high"] (L2.defScope s_bounds_between) := ⟨rfl, rfl, rfl, by decide +kernel, rfl, by decide +kernel, by decide +kernel⟩
def F_bounds_between : List D → M D := callF 6 (sSeq (sSet 4 (eCall F_farthest_sum [(eVar 0), (eVar 1), (eVar 3), (eVar 2)])) (sSeq (sSet 5 (eCall F_farthest_sum [(eVar 0), (eVar 1), (eVar 2), (eVar 3)])) (sSeq (sIf (tVal (eBin isNonD (eVar 5) (eC .non))) (sRet (eMake 101 ["least", "most", "least_trail", "most_trail"] (fun ds => F_SumBounds___init__ (ds ++ [])) [(eCall F_negative [(eBin ixD (eVar 4) (eC (.int 0)))]), (eC .non), (eBin ixD (eVar 4) (eC (.int 1))), (eC .non)])) sNext) (sRet (eMake 101 ["least", "most", "least_trail", "most_trail"] (fun ds => F_SumBounds___init__ (ds ++ [])) [(eCall F_negative [(eBin ixD (eVar 4) (eC (.int 0)))]), (eBin ixD (eVar 5) (eC (.int 0))), (eBin ixD (eVar 4) (eC (.int 1))), (eBin ixD (eVar 5) (eC (.int 1)))])))))
theorem has_bounds_between (T : Tx P K mg cm) (G_SumBounds___init__ : FL.HasN P w K mg base cm "SumBounds" 101 2 ["least", "most", "least_trail", "most_trail"] [[]] 4 F_SumBounds___init__) (G_farthest_sum : FL.Has P w K mg base cm "farthest_sum" 4 ["count", "tellings", "begin", "end"] [[]] [] 4 F_farthest_sum) (G_negative : FL.Has P w K mg base cm "negative" 2 ["one"] [[]] [] 1 F_negative) : FL.Has P w K mg base cm "bounds_between" 5 ["count", "tellings", "low", "high"] [[]] [] 4 F_bounds_between :=
  FL.has_of T.d_bounds_between sc_bounds_between rfl rfl (by decide) (fun _ _ _ _ _ _ us hl => match us, hl with | [_, _, _, _], _ => rfl) (fun f cdv A outer s H E q hr => by have tk : L2N.Takes (L2.cxOf (L2N.CX P w) P w K mg base N_bounds_between "bounds_between" (L2.defScope s_bounds_between) f cdv A outer s H E) (fun cls d _ H' => E cls d H') := L2N.takes_of rfl rfl rfl rfl; have pa : PassesOwn (model P w) (L2.cxOf (L2N.CX P w) P w K mg base N_bounds_between "bounds_between" (L2.defScope s_bounds_between) f cdv A outer s H E).A (L2.cxOf (L2N.CX P w) P w K mg base N_bounds_between "bounds_between" (L2.defScope s_bounds_between) f cdv A outer s H E).env (L2.cxOf (L2N.CX P w) P w K mg base N_bounds_between "bounds_between" (L2.defScope s_bounds_between) f cdv A outer s H E).xe := L2.passes_of rfl; exact (FL.pssx_cons (FL.psx_set sc_bounds_between.nd (i := 4) rfl (by first | exact Or.inl rfl | exact Or.inr rfl) (FL.px_has G_farthest_sum (hr.mono (by decide)) tk (by rfl) (FL.pax_cons (FL.px_var 0) (FL.pax_cons (FL.px_var 1) (FL.pax_cons (FL.px_var 3) (FL.pax_cons (FL.px_var 2) FL.pax_nil)))))) (FL.pssx_cons (FL.psx_set sc_bounds_between.nd (i := 5) rfl (by first | exact Or.inl rfl | exact Or.inr rfl) (FL.px_has G_farthest_sum (hr.mono (by decide)) tk (by rfl) (FL.pax_cons (FL.px_var 0) (FL.pax_cons (FL.px_var 1) (FL.pax_cons (FL.px_var 2) (FL.pax_cons (FL.px_var 3) FL.pax_nil)))))) (FL.pssx_cons (FL.psx_if (FL.ptx_cmp L2.op_isN FL.isNon_ok (FL.px_var 5) FL.px_non (L2.nomark _)) (FL.pssx_one (FL.psx_ret (FL.px_hasN [] G_SumBounds___init__ (hr.mono (by decide)) tk (by rfl) (FL.pax_cons (FL.px_has G_negative (hr.mono (by decide)) tk (by rfl) (FL.pax_cons (FL.px_ix (FL.px_var 4) FL.px_int) FL.pax_nil)) (FL.pax_cons FL.px_non (FL.pax_cons (FL.px_ix (FL.px_var 4) FL.px_int) (FL.pax_cons FL.px_non FL.pax_nil))))))) FL.pssx_nil) (FL.pssx_one (FL.psx_ret (FL.px_hasN [] G_SumBounds___init__ (hr.mono (by decide)) tk (by rfl) (FL.pax_cons (FL.px_has G_negative (hr.mono (by decide)) tk (by rfl) (FL.pax_cons (FL.px_ix (FL.px_var 4) FL.px_int) FL.pax_nil)) (FL.pax_cons (FL.px_ix (FL.px_var 5) FL.px_int) (FL.pax_cons (FL.px_ix (FL.px_var 4) FL.px_int) (FL.pax_cons (FL.px_ix (FL.px_var 5) FL.px_int) FL.pax_nil)))))))))))
abbrev N_minus : List Str := ["one", "two"]
theorem sc_minus : L2.FnScope N_minus ["one", "two"] (L2.defScope s_minus) := ⟨rfl, rfl, rfl, by decide +kernel, rfl, by decide +kernel, by decide +kernel⟩
def F_minus : List D → M D := callF 2 (sRet (eCall F__lowest [(eBin subD (eBin mulD (eBin ixD (eVar 0) (eC (.int 0))) (eBin ixD (eVar 1) (eC (.int 1)))) (eBin mulD (eBin ixD (eVar 1) (eC (.int 0))) (eBin ixD (eVar 0) (eC (.int 1))))), (eBin mulD (eBin ixD (eVar 0) (eC (.int 1))) (eBin ixD (eVar 1) (eC (.int 1))))]))
theorem has_minus (T : Tx P K mg cm) (G__lowest : FL.Has P w K mg base cm "_lowest" 2 ["top", "bottom"] [[]] [] 2 F__lowest) : FL.Has P w K mg base cm "minus" 3 ["one", "two"] [[]] [] 2 F_minus :=
  FL.has_of T.d_minus sc_minus rfl rfl (by decide) (fun _ _ _ _ _ _ us hl => match us, hl with | [_, _], _ => rfl) (fun f cdv A outer s H E q hr => by have tk : L2N.Takes (L2.cxOf (L2N.CX P w) P w K mg base N_minus "minus" (L2.defScope s_minus) f cdv A outer s H E) (fun cls d _ H' => E cls d H') := L2N.takes_of rfl rfl rfl rfl; have pa : PassesOwn (model P w) (L2.cxOf (L2N.CX P w) P w K mg base N_minus "minus" (L2.defScope s_minus) f cdv A outer s H E).A (L2.cxOf (L2N.CX P w) P w K mg base N_minus "minus" (L2.defScope s_minus) f cdv A outer s H E).env (L2.cxOf (L2N.CX P w) P w K mg base N_minus "minus" (L2.defScope s_minus) f cdv A outer s H E).xe := L2.passes_of rfl; exact (FL.pssx_one (FL.psx_ret (FL.px_has G__lowest (hr.mono (by decide)) tk (by rfl) (FL.pax_cons (FL.px_bin L2.op_sub FL.sub_ok (FL.px_bin FL.op_mulB FL.mul_ok (FL.px_ix (FL.px_var 0) FL.px_int) (FL.px_ix (FL.px_var 1) FL.px_int)) (FL.px_bin FL.op_mulB FL.mul_ok (FL.px_ix (FL.px_var 1) FL.px_int) (FL.px_ix (FL.px_var 0) FL.px_int))) (FL.pax_cons (FL.px_bin FL.op_mulB FL.mul_ok (FL.px_ix (FL.px_var 0) FL.px_int) (FL.px_ix (FL.px_var 1) FL.px_int)) FL.pax_nil))))))
abbrev N_next_tie : List Str := ["count", "tellings", "ties", "best", "number", "low", "high", "found", "width"]
theorem sc_next_tie : L2.FnScope N_next_tie ["count", "tellings", "ties"] (L2.defScope s_next_tie) := ⟨rfl, rfl, rfl, by decide +kernel, rfl, by decide +kernel, by decide +kernel⟩
def B_next_tie_0 : SF := (sSeq (sSet 7 (eCall F_bounds_between [(eVar 0), (eVar 1), (eVar 5), (eVar 6)])) (sSeq (sIf (tVal (eBin isNonD (eUn (fldO [101] "most") (eVar 7)) (eC .non))) (sRet (eTup [(eVar 4), (eC .non)])) sNext) (sSeq (sSet 8 (eCall F_minus [(eUn (fldO [101] "most") (eVar 7)), (eUn (fldO [101] "least") (eVar 7))])) (sIf (tOr (tVal (eBin isNonD (eVar 3) (eC .non))) (tVal (eBin gtD (eCall F_compare [(eVar 8), (eBin ixD (eVar 3) (eC (.int 1)))]) (eC (.int 0))))) (sSet 3 (eTup [(eVar 4), (eVar 8)])) sNext))))
theorem B_next_tie_0_w {ρ : FL.Env} {w : Wd} : B_next_tie_0 ρ w = (sSeq (sSet 7 (eCall F_bounds_between [(eVar 0), (eVar 1), (eVar 5), (eVar 6)])) (sSeq (sIf (tVal (eBin isNonD (eUn (fldO [101] "most") (eVar 7)) (eC .non))) (sRet (eTup [(eVar 4), (eC .non)])) sNext) (sSeq (sSet 8 (eCall F_minus [(eUn (fldO [101] "most") (eVar 7)), (eUn (fldO [101] "least") (eVar 7))])) (sIf (tOr (tVal (eBin isNonD (eVar 3) (eC .non))) (tVal (eBin gtD (eCall F_compare [(eVar 8), (eBin ixD (eVar 3) (eC (.int 1)))]) (eC (.int 0))))) (sSet 3 (eTup [(eVar 4), (eVar 8)])) sNext)))) ρ w := rfl
def F_next_tie : List D → M D := callF 9 (sSeq (sSet 1 (eCall F_check_tellings [(eVar 0), (eVar 1)])) (sSeq (sSet 2 (eCall F_check_ties [(eVar 0), (eVar 2)])) (sSeq (sExpr (eCall F_check_fit [(eVar 0), (eVar 1)])) (sSeq (sSet 3 (eC .non)) (sSeq (sFor (iEnum (eVar 2)) (gTN 4 [5, 6]) B_next_tie_0) (sRet (eVar 3)))))))
theorem has_next_tie (T : Tx P K mg cm) (G_bounds_between : FL.Has P w K mg base cm "bounds_between" 5 ["count", "tellings", "low", "high"] [[]] [] 4 F_bounds_between) (G_check_fit : FL.Has P w K mg base cm "check_fit" 5 ["count", "tellings"] [[]] [] 2 F_check_fit) (G_check_tellings : FL.Has P w K mg base cm "check_tellings" 4 ["count", "tellings"] [[]] [] 2 F_check_tellings) (G_check_ties : FL.Has P w K mg base cm "check_ties" 4 ["count", "ties"] [[]] [] 2 F_check_ties) (G_compare : FL.Has P w K mg base cm "compare" 2 ["one", "two"] [[]] [] 2 F_compare) (G_minus : FL.Has P w K mg base cm "minus" 3 ["one", "two"] [[]] [] 2 F_minus) : FL.Has P w K mg base cm "next_tie" 6 ["count", "tellings", "ties"] [[]] [] 3 F_next_tie :=
  FL.has_of T.d_next_tie sc_next_tie rfl rfl (by decide) (fun _ _ _ _ _ _ us hl => match us, hl with | [_, _, _], _ => rfl) (fun f cdv A outer s H E q hr => by have tk : L2N.Takes (L2.cxOf (L2N.CX P w) P w K mg base N_next_tie "next_tie" (L2.defScope s_next_tie) f cdv A outer s H E) (fun cls d _ H' => E cls d H') := L2N.takes_of rfl rfl rfl rfl; have pa : PassesOwn (model P w) (L2.cxOf (L2N.CX P w) P w K mg base N_next_tie "next_tie" (L2.defScope s_next_tie) f cdv A outer s H E).A (L2.cxOf (L2N.CX P w) P w K mg base N_next_tie "next_tie" (L2.defScope s_next_tie) f cdv A outer s H E).env (L2.cxOf (L2N.CX P w) P w K mg base N_next_tie "next_tie" (L2.defScope s_next_tie) f cdv A outer s H E).xe := L2.passes_of rfl; exact (FL.pssx_cons (FL.psx_set sc_next_tie.nd (i := 1) rfl (by first | exact Or.inl rfl | exact Or.inr rfl) (FL.px_has G_check_tellings (hr.mono (by decide)) tk (by rfl) (FL.pax_cons (FL.px_var 0) (FL.pax_cons (FL.px_var 1) FL.pax_nil)))) (FL.pssx_cons (FL.psx_set sc_next_tie.nd (i := 2) rfl (by first | exact Or.inl rfl | exact Or.inr rfl) (FL.px_has G_check_ties (hr.mono (by decide)) tk (by rfl) (FL.pax_cons (FL.px_var 0) (FL.pax_cons (FL.px_var 2) FL.pax_nil)))) (FL.pssx_cons (FL.psx_expr (FL.px_has G_check_fit (hr.mono (by decide)) tk (by rfl) (FL.pax_cons (FL.px_var 0) (FL.pax_cons (FL.px_var 1) FL.pax_nil)))) (FL.pssx_cons (FL.psx_set sc_next_tie.nd (i := 3) rfl (by first | exact Or.inl rfl | exact Or.inr rfl) FL.px_non) (FL.pssx_cons (FL.psx_for pa rfl (FL.pix_enum (by rfl) T.n_enumerate (FL.px_var 2)) (L2.pg_tup rfl (L2.pgs_cons (L2.pg_name (i := 4) sc_next_tie.nd rfl (by first | exact Or.inl rfl | exact Or.inr rfl)) (L2.pgs_cons (L2.pg_tup rfl (L2.pgs_cons (L2.pg_name (i := 5) sc_next_tie.nd rfl (by first | exact Or.inl rfl | exact Or.inr rfl)) (L2.pgs_cons (L2.pg_name (i := 6) sc_next_tie.nd rfl (by first | exact Or.inl rfl | exact Or.inr rfl)) L2.pgs_nil))) L2.pgs_nil))) (FL.tgx_tn 4 [5, 6]) (FL.pssx_cons (FL.psx_set sc_next_tie.nd (i := 7) rfl (by first | exact Or.inl rfl | exact Or.inr rfl) (FL.px_has G_bounds_between (hr.mono (by decide)) tk (by rfl) (FL.pax_cons (FL.px_var 0) (FL.pax_cons (FL.px_var 1) (FL.pax_cons (FL.px_var 5) (FL.pax_cons (FL.px_var 6) FL.pax_nil)))))) (FL.pssx_cons (FL.psx_if (FL.ptx_cmp L2.op_isN FL.isNon_ok (FL.px_fldA [101] T.all (by decide +kernel) (FL.px_var 7)) FL.px_non (L2.nomark _)) (FL.pssx_one (FL.psx_ret (FL.px_tup (FL.pax_cons (FL.px_var 4) (FL.pax_cons FL.px_non FL.pax_nil))))) FL.pssx_nil) (FL.pssx_cons (FL.psx_set sc_next_tie.nd (i := 8) rfl (by first | exact Or.inl rfl | exact Or.inr rfl) (FL.px_has G_minus (hr.mono (by decide)) tk (by rfl) (FL.pax_cons (FL.px_fldA [101] T.all (by decide +kernel) (FL.px_var 7)) (FL.pax_cons (FL.px_fldA [101] T.all (by decide +kernel) (FL.px_var 7)) FL.pax_nil)))) (FL.pssx_one (FL.psx_if (FL.PWX.pt (FL.pwx_or (FL.ptx_cmp L2.op_isN FL.isNon_ok (FL.px_var 3) FL.px_non (L2.nomark _)) (FL.pwx_or1 (FL.ptx_cmp L2.op_gt FL.gt_ok (FL.px_has G_compare (hr.mono (by decide)) tk (by rfl) (FL.pax_cons (FL.px_var 8) (FL.pax_cons (FL.px_ix (FL.px_var 3) FL.px_int) FL.pax_nil))) FL.px_int (L2.nomark _))))) (FL.pssx_one (FL.psx_set sc_next_tie.nd (i := 3) rfl (by first | exact Or.inl rfl | exact Or.inr rfl) (FL.px_tup (FL.pax_cons (FL.px_var 4) (FL.pax_cons (FL.px_var 8) FL.pax_nil))))) FL.pssx_nil)))))) (FL.pssx_one (FL.psx_ret (FL.px_var 3)))))))))
abbrev N_needless_tellings : List Str := ["count", "tellings", "needless", "number", "low", "high", "least", "most", "found"]
theorem sc_needless_tellings : L2.FnScope N_needless_tellings ["count", "tellings"] (L2.defScope s_needless_tellings) := ⟨rfl, rfl, rfl, by decide +kernel, rfl, by decide +kernel, by decide +kernel⟩
def B_needless_tellings_0 : SF := (sSeq (sSet 8 (eCall F_bounds_between [(eVar 0), (eBin addTD (eSlice (eVar 1) none (some (eVar 3))) (eSlice (eVar 1) (some (eBin addTD (eVar 3) (eC (.int 1)))) none)), (eVar 4), (eVar 5)])) (sIf (tAnd (tVal (eBin notNonD (eUn (fldO [101] "most") (eVar 8)) (eC .non))) (tAnd (tVal (eBin leD (eCall F_compare [(eUn (fldO [101] "most") (eVar 8)), (eVar 7)]) (eC (.int 0)))) (tVal (eBin geD (eCall F_compare [(eUn (fldO [101] "least") (eVar 8)), (eVar 6)]) (eC (.int 0)))))) (sApp 2 (eVar 3)) sNext))
theorem B_needless_tellings_0_w {ρ : FL.Env} {w : Wd} : B_needless_tellings_0 ρ w = (sSeq (sSet 8 (eCall F_bounds_between [(eVar 0), (eBin addTD (eSlice (eVar 1) none (some (eVar 3))) (eSlice (eVar 1) (some (eBin addTD (eVar 3) (eC (.int 1)))) none)), (eVar 4), (eVar 5)])) (sIf (tAnd (tVal (eBin notNonD (eUn (fldO [101] "most") (eVar 8)) (eC .non))) (tAnd (tVal (eBin leD (eCall F_compare [(eUn (fldO [101] "most") (eVar 8)), (eVar 7)]) (eC (.int 0)))) (tVal (eBin geD (eCall F_compare [(eUn (fldO [101] "least") (eVar 8)), (eVar 6)]) (eC (.int 0)))))) (sApp 2 (eVar 3)) sNext)) ρ w := rfl
def F_needless_tellings : List D → M D := callF 9 (sSeq (sSet 1 (eCall F_check_tellings [(eVar 0), (eVar 1)])) (sSeq (sExpr (eCall F_check_fit [(eVar 0), (eVar 1)])) (sSeq (sOwn 2 (evs [])) (sSeq (sFor (iEnum (eVar 1)) (gTN 3 [4, 5, 6, 7]) B_needless_tellings_0) (sSeq (sFrz 2) (sRet (eCall (un1 tupD) [(eVar 2)])))))))
theorem has_needless_tellings (T : Tx P K mg cm) (G_bounds_between : FL.Has P w K mg base cm "bounds_between" 5 ["count", "tellings", "low", "high"] [[]] [] 4 F_bounds_between) (G_check_fit : FL.Has P w K mg base cm "check_fit" 5 ["count", "tellings"] [[]] [] 2 F_check_fit) (G_check_tellings : FL.Has P w K mg base cm "check_tellings" 4 ["count", "tellings"] [[]] [] 2 F_check_tellings) (G_compare : FL.Has P w K mg base cm "compare" 2 ["one", "two"] [[]] [] 2 F_compare) : FL.Has P w K mg base cm "needless_tellings" 6 ["count", "tellings"] [[]] [] 2 F_needless_tellings :=
  FL.has_of T.d_needless_tellings sc_needless_tellings rfl rfl (by decide) (fun _ _ _ _ _ _ us hl => match us, hl with | [_, _], _ => rfl) (fun f cdv A outer s H E q hr => by have tk : L2N.Takes (L2.cxOf (L2N.CX P w) P w K mg base N_needless_tellings "needless_tellings" (L2.defScope s_needless_tellings) f cdv A outer s H E) (fun cls d _ H' => E cls d H') := L2N.takes_of rfl rfl rfl rfl; have pa : PassesOwn (model P w) (L2.cxOf (L2N.CX P w) P w K mg base N_needless_tellings "needless_tellings" (L2.defScope s_needless_tellings) f cdv A outer s H E).A (L2.cxOf (L2N.CX P w) P w K mg base N_needless_tellings "needless_tellings" (L2.defScope s_needless_tellings) f cdv A outer s H E).env (L2.cxOf (L2N.CX P w) P w K mg base N_needless_tellings "needless_tellings" (L2.defScope s_needless_tellings) f cdv A outer s H E).xe := L2.passes_of rfl; exact (FL.pssx_cons (FL.psx_set sc_needless_tellings.nd (i := 1) rfl (by first | exact Or.inl rfl | exact Or.inr rfl) (FL.px_has G_check_tellings (hr.mono (by decide)) tk (by rfl) (FL.pax_cons (FL.px_var 0) (FL.pax_cons (FL.px_var 1) FL.pax_nil)))) (FL.pssx_cons (FL.psx_expr (FL.px_has G_check_fit (hr.mono (by decide)) tk (by rfl) (FL.pax_cons (FL.px_var 0) (FL.pax_cons (FL.px_var 1) FL.pax_nil)))) (FL.pssx_cons (FL.psx_own sc_needless_tellings.nd (i := 2) rfl (by first | exact Or.inl rfl | exact Or.inr rfl) (FL.pnx_lst FL.pax_nil)) (FL.pssx_cons (FL.psx_for pa rfl (FL.pix_enum (by rfl) T.n_enumerate (FL.px_var 1)) (L2.pg_tup rfl (L2.pgs_cons (L2.pg_name (i := 3) sc_needless_tellings.nd rfl (by first | exact Or.inl rfl | exact Or.inr rfl)) (L2.pgs_cons (L2.pg_tup rfl (L2.pgs_cons (L2.pg_name (i := 4) sc_needless_tellings.nd rfl (by first | exact Or.inl rfl | exact Or.inr rfl)) (L2.pgs_cons (L2.pg_name (i := 5) sc_needless_tellings.nd rfl (by first | exact Or.inl rfl | exact Or.inr rfl)) (L2.pgs_cons (L2.pg_name (i := 6) sc_needless_tellings.nd rfl (by first | exact Or.inl rfl | exact Or.inr rfl)) (L2.pgs_cons (L2.pg_name (i := 7) sc_needless_tellings.nd rfl (by first | exact Or.inl rfl | exact Or.inr rfl)) L2.pgs_nil))))) L2.pgs_nil))) (FL.tgx_tn 3 [4, 5, 6, 7]) (FL.pssx_cons (FL.psx_set sc_needless_tellings.nd (i := 8) rfl (by first | exact Or.inl rfl | exact Or.inr rfl) (FL.px_has G_bounds_between (hr.mono (by decide)) tk (by rfl) (FL.pax_cons (FL.px_var 0) (FL.pax_cons (FL.px_bin FL.op_addT FL.addT_ok (FL.px_slice (FL.px_var 1) FL.pox_none (FL.pox_some (FL.px_var 3))) (FL.px_slice (FL.px_var 1) (FL.pox_some (FL.px_bin FL.op_addT FL.addT_ok (FL.px_var 3) FL.px_int)) FL.pox_none)) (FL.pax_cons (FL.px_var 4) (FL.pax_cons (FL.px_var 5) FL.pax_nil)))))) (FL.pssx_one (FL.psx_if (FL.PWX.pt (FL.pwx_and (FL.ptx_cmp L2.op_notN FL.notNon_ok (FL.px_fldA [101] T.all (by decide +kernel) (FL.px_var 8)) FL.px_non (L2.nomark _)) (FL.pwx_and (FL.ptx_cmp L2.op_le FL.le_ok (FL.px_has G_compare (hr.mono (by decide)) tk (by rfl) (FL.pax_cons (FL.px_fldA [101] T.all (by decide +kernel) (FL.px_var 8)) (FL.pax_cons (FL.px_var 7) FL.pax_nil))) FL.px_int (L2.nomark _)) (FL.pwx_and1 (FL.ptx_cmp L2.op_ge FL.ge_ok (FL.px_has G_compare (hr.mono (by decide)) tk (by rfl) (FL.pax_cons (FL.px_fldA [101] T.all (by decide +kernel) (FL.px_var 8)) (FL.pax_cons (FL.px_var 6) FL.pax_nil))) FL.px_int (L2.nomark _)))))) (FL.pssx_one (FL.psx_appE 2 (FL.px_var 3))) FL.pssx_nil)))) (FL.pssx_frz 2 (FL.pssx_one (FL.psx_ret (FL.px_callTy L2.call_tuple_of FL.tuple_ok (by rfl) T.n_tuple FL.bt_tuple (FL.pax_cons (FL.px_var 2) FL.pax_nil))))))))))
abbrev N_suspect_tellings : List Str := ["count", "tellings", "others", "number", "rest"]
theorem sc_suspect_tellings : L2.FnScope N_suspect_tellings ["count", "tellings"] (L2.defScope s_suspect_tellings) := ⟨rfl, rfl, rfl, by decide +kernel, rfl, by decide +kernel, by decide +kernel⟩
def F_suspect_tellings : List D → M D := callF 5 (sSeq (sSet 1 (eCall F_check_tellings [(eVar 0), (eVar 1)])) (sSeq (sSet 2 (eNew (nLc (iRng (eC (.int 0)) (eCall (un1 lenD) [(eVar 1)])) [3] (gN 3) tYes (eBin addTD (eSlice (eVar 1) none (some (eVar 3))) (eSlice (eVar 1) (some (eBin addTD (eVar 3) (eC (.int 1)))) none))))) (sRet (eCall (un1 tupD) [(eNew (nLc (iEnum (eVar 2)) [3, 4] (gT [3, 4]) (tNot (tTru (eUn (isiO cs_ 100) (eCall F_weights_by [(eVar 0), (eVar 4)])))) (eVar 3)))]))))
theorem has_suspect_tellings (T : Tx P K mg cm) (G_check_tellings : FL.Has P w K mg base cm "check_tellings" 4 ["count", "tellings"] [[]] [] 2 F_check_tellings) (G_weights_by : FL.Has P w K mg base cm "weights_by" 4 ["count", "tellings"] [[]] [] 2 F_weights_by) : FL.Has P w K mg base cm "suspect_tellings" 5 ["count", "tellings"] [[]] [] 2 F_suspect_tellings :=
  FL.has_of T.d_suspect_tellings sc_suspect_tellings rfl rfl (by decide) (fun _ _ _ _ _ _ us hl => match us, hl with | [_, _], _ => rfl) (fun f cdv A outer s H E q hr => by have tk : L2N.Takes (L2.cxOf (L2N.CX P w) P w K mg base N_suspect_tellings "suspect_tellings" (L2.defScope s_suspect_tellings) f cdv A outer s H E) (fun cls d _ H' => E cls d H') := L2N.takes_of rfl rfl rfl rfl; have pa : PassesOwn (model P w) (L2.cxOf (L2N.CX P w) P w K mg base N_suspect_tellings "suspect_tellings" (L2.defScope s_suspect_tellings) f cdv A outer s H E).A (L2.cxOf (L2N.CX P w) P w K mg base N_suspect_tellings "suspect_tellings" (L2.defScope s_suspect_tellings) f cdv A outer s H E).env (L2.cxOf (L2N.CX P w) P w K mg base N_suspect_tellings "suspect_tellings" (L2.defScope s_suspect_tellings) f cdv A outer s H E).xe := L2.passes_of rfl; exact (FL.pssx_cons (FL.psx_set sc_suspect_tellings.nd (i := 1) rfl (by first | exact Or.inl rfl | exact Or.inr rfl) (FL.px_has G_check_tellings (hr.mono (by decide)) tk (by rfl) (FL.pax_cons (FL.px_var 0) (FL.pax_cons (FL.px_var 1) FL.pax_nil)))) (FL.pssx_cons (FL.psx_setLc (i := 2) (own := [("number", 3)]) rfl sc_suspect_tellings.nd rfl rfl (L2.sw_true rfl rfl rfl (by decide +kernel)) (FL.pix_range1 (by rfl) T.n_range (FL.px_callB L2.call_len FL.len_ok (by rfl) T.n_len FL.bt_len (FL.pax_cons (FL.px_var 1) FL.pax_nil))) (L2.blkOk_by (N := N_suspect_tellings) (sc := L2.defScope s_suspect_tellings) (by decide +kernel)) rfl (fun _ _ _ _ _ => (L2.pg_name (i := 3) sc_suspect_tellings.nd rfl (by first | exact Or.inl rfl | exact Or.inr rfl))) (FL.tgx_n 3) (fun _ _ _ _ _ => FL.ptsx0) (fun _ _ _ _ _ => (FL.px_bin FL.op_addT FL.addT_ok (FL.px_slice (FL.px_var 1) FL.pox_none (FL.pox_some (FL.px_var 3))) (FL.px_slice (FL.px_var 1) (FL.pox_some (FL.px_bin FL.op_addT FL.addT_ok (FL.px_var 3) FL.px_int)) FL.pox_none)))) (FL.pssx_one (FL.psx_ret (FL.px_callTy L2.call_tuple_of FL.tuple_ok (by rfl) T.n_tuple FL.bt_tuple (FL.pax_cons (FL.px_new (FL.pnx_lcE (own := [("number", 3), ("rest", 4)]) rfl sc_suspect_tellings.nd (FL.pix_enum (by rfl) T.n_enumerate (FL.px_var 2)) (L2.blkOk_by (N := N_suspect_tellings) (sc := L2.defScope s_suspect_tellings) (by decide +kernel)) rfl (fun _ _ _ _ _ => (L2.pg_tup rfl (L2.pgs_cons (L2.pg_name (i := 3) sc_suspect_tellings.nd rfl (by first | exact Or.inl rfl | exact Or.inr rfl)) (L2.pgs_cons (L2.pg_name (i := 4) sc_suspect_tellings.nd rfl (by first | exact Or.inl rfl | exact Or.inr rfl)) L2.pgs_nil)))) (FL.tgx_t [3, 4]) (fun _ _ _ _ _ => (FL.ptsx1 (FL.ptx_not (FL.ptx_tru (FL.px_isiA 100 T.all (by decide +kernel) (by rfl) T.n_isinstance (by rfl) T.x_100 (FL.px_has G_weights_by (hr.mono (by decide)) FL.takes0N (by rfl) (FL.pax_cons (FL.px_var 0) (FL.pax_cons (FL.px_var 4) FL.pax_nil)))))))) (fun _ _ _ _ _ => (FL.px_var 3)))) FL.pax_nil)))))))
abbrev N_check_marks : List Str := ["count", "low", "high"]
theorem sc_check_marks : L2.FnScope N_check_marks ["count", "low", "high"] (L2.defScope s_check_marks) := ⟨rfl, rfl, rfl, by decide +kernel, rfl, by decide +kernel, by decide +kernel⟩
def F_check_marks : List D → M D := callF 3 (sIf (tNot (tTru (eCall F_are_marks [(eVar 0), (eVar 1), (eVar 2)]))) (sRaise 5 ["low", "high"] [(eVar 1), (eVar 2)]) sNext)
theorem has_check_marks (T : Tx P K mg cm) (G_are_marks : FL.Has P w K mg base cm "are_marks" 3 ["count", "low", "high"] [[]] [] 3 F_are_marks) : FL.Has P w K mg base cm "check_marks" 4 ["count", "low", "high"] [[]] [] 3 F_check_marks :=
  FL.has_of T.d_check_marks sc_check_marks rfl rfl (by decide) (fun _ _ _ _ _ _ us hl => match us, hl with | [_, _, _], _ => rfl) (fun f cdv A outer s H E q hr => by have tk : L2N.Takes (L2.cxOf (L2N.CX P w) P w K mg base N_check_marks "check_marks" (L2.defScope s_check_marks) f cdv A outer s H E) (fun cls d _ H' => E cls d H') := L2N.takes_of rfl rfl rfl rfl; have pa : PassesOwn (model P w) (L2.cxOf (L2N.CX P w) P w K mg base N_check_marks "check_marks" (L2.defScope s_check_marks) f cdv A outer s H E).A (L2.cxOf (L2N.CX P w) P w K mg base N_check_marks "check_marks" (L2.defScope s_check_marks) f cdv A outer s H E).env (L2.cxOf (L2N.CX P w) P w K mg base N_check_marks "check_marks" (L2.defScope s_check_marks) f cdv A outer s H E).xe := L2.passes_of rfl; exact (FL.pssx_one (FL.psx_if (FL.ptx_not (FL.ptx_tru (FL.px_has G_are_marks (hr.mono (by decide)) tk (by rfl) (FL.pax_cons (FL.px_var 0) (FL.pax_cons (FL.px_var 1) (FL.pax_cons (FL.px_var 2) FL.pax_nil)))))) (FL.pssx_one (FL.psx_raiseH 5 (T.exc_5) rfl rfl tk (hr.mono (by decide)) (by rfl) (FL.pax_cons (FL.px_var 1) (FL.pax_cons (FL.px_var 2) FL.pax_nil)))) FL.pssx_nil)))
abbrev N_limit_verdict : List Str := ["count", "tellings", "low", "high", "limit", "found"]
theorem sc_limit_verdict : L2.FnScope N_limit_verdict ["count", "tellings", "low", "high", "limit"] (L2.defScope s_limit_verdict) := ⟨rfl, rfl, rfl, by decide +kernel, rfl, by decide +kernel, by decide +kernel⟩
def F_limit_verdict : List D → M D := callF 6 (sSeq (sSet 1 (eCall F_check_tellings [(eVar 0), (eVar 1)])) (sSeq (sExpr (eCall F_check_marks [(eVar 0), (eVar 2), (eVar 3)])) (sSeq (sIf (tNot (tTru (eCall F_is_ratio [(eVar 4)]))) (sRaise 2 ["amount"] [(eVar 4)]) sNext) (sSeq (sExpr (eCall F_check_fit [(eVar 0), (eVar 1)])) (sSeq (sSet 5 (eCall F_bounds_between [(eVar 0), (eVar 1), (eVar 2), (eVar 3)])) (sSeq (sIf (tAnd (tVal (eBin notNonD (eUn (fldO [101] "most") (eVar 5)) (eC .non))) (tVal (eBin leD (eCall F_compare [(eUn (fldO [101] "most") (eVar 5)), (eVar 4)]) (eC (.int 0))))) (sRet (eC (.str "within"))) sNext) (sRet (eIf (tVal (eBin gtD (eCall F_compare [(eUn (fldO [101] "least") (eVar 5)), (eVar 4)]) (eC (.int 0)))) (eC (.str "over")) (eC (.str "maybe"))))))))))
theorem has_limit_verdict (T : Tx P K mg cm) (G_bounds_between : FL.Has P w K mg base cm "bounds_between" 5 ["count", "tellings", "low", "high"] [[]] [] 4 F_bounds_between) (G_check_fit : FL.Has P w K mg base cm "check_fit" 5 ["count", "tellings"] [[]] [] 2 F_check_fit) (G_check_marks : FL.Has P w K mg base cm "check_marks" 4 ["count", "low", "high"] [[]] [] 3 F_check_marks) (G_check_tellings : FL.Has P w K mg base cm "check_tellings" 4 ["count", "tellings"] [[]] [] 2 F_check_tellings) (G_compare : FL.Has P w K mg base cm "compare" 2 ["one", "two"] [[]] [] 2 F_compare) (G_is_ratio : FL.Has P w K mg base cm "is_ratio" 3 ["thing"] [[]] [] 1 F_is_ratio) : FL.Has P w K mg base cm "limit_verdict" 6 ["count", "tellings", "low", "high", "limit"] [[]] [] 5 F_limit_verdict :=
  FL.has_of T.d_limit_verdict sc_limit_verdict rfl rfl (by decide) (fun _ _ _ _ _ _ us hl => match us, hl with | [_, _, _, _, _], _ => rfl) (fun f cdv A outer s H E q hr => by have tk : L2N.Takes (L2.cxOf (L2N.CX P w) P w K mg base N_limit_verdict "limit_verdict" (L2.defScope s_limit_verdict) f cdv A outer s H E) (fun cls d _ H' => E cls d H') := L2N.takes_of rfl rfl rfl rfl; have pa : PassesOwn (model P w) (L2.cxOf (L2N.CX P w) P w K mg base N_limit_verdict "limit_verdict" (L2.defScope s_limit_verdict) f cdv A outer s H E).A (L2.cxOf (L2N.CX P w) P w K mg base N_limit_verdict "limit_verdict" (L2.defScope s_limit_verdict) f cdv A outer s H E).env (L2.cxOf (L2N.CX P w) P w K mg base N_limit_verdict "limit_verdict" (L2.defScope s_limit_verdict) f cdv A outer s H E).xe := L2.passes_of rfl; exact (FL.pssx_cons (FL.psx_set sc_limit_verdict.nd (i := 1) rfl (by first | exact Or.inl rfl | exact Or.inr rfl) (FL.px_has G_check_tellings (hr.mono (by decide)) tk (by rfl) (FL.pax_cons (FL.px_var 0) (FL.pax_cons (FL.px_var 1) FL.pax_nil)))) (FL.pssx_cons (FL.psx_expr (FL.px_has G_check_marks (hr.mono (by decide)) tk (by rfl) (FL.pax_cons (FL.px_var 0) (FL.pax_cons (FL.px_var 2) (FL.pax_cons (FL.px_var 3) FL.pax_nil))))) (FL.pssx_cons (FL.psx_if (FL.ptx_not (FL.ptx_tru (FL.px_has G_is_ratio (hr.mono (by decide)) tk (by rfl) (FL.pax_cons (FL.px_var 4) FL.pax_nil)))) (FL.pssx_one (FL.psx_raiseH 2 (T.exc_2) rfl rfl tk (hr.mono (by decide)) (by rfl) (FL.pax_cons (FL.px_var 4) FL.pax_nil))) FL.pssx_nil) (FL.pssx_cons (FL.psx_expr (FL.px_has G_check_fit (hr.mono (by decide)) tk (by rfl) (FL.pax_cons (FL.px_var 0) (FL.pax_cons (FL.px_var 1) FL.pax_nil)))) (FL.pssx_cons (FL.psx_set sc_limit_verdict.nd (i := 5) rfl (by first | exact Or.inl rfl | exact Or.inr rfl) (FL.px_has G_bounds_between (hr.mono (by decide)) tk (by rfl) (FL.pax_cons (FL.px_var 0) (FL.pax_cons (FL.px_var 1) (FL.pax_cons (FL.px_var 2) (FL.pax_cons (FL.px_var 3) FL.pax_nil)))))) (FL.pssx_cons (FL.psx_if (FL.PWX.pt (FL.pwx_and (FL.ptx_cmp L2.op_notN FL.notNon_ok (FL.px_fldA [101] T.all (by decide +kernel) (FL.px_var 5)) FL.px_non (L2.nomark _)) (FL.pwx_and1 (FL.ptx_cmp L2.op_le FL.le_ok (FL.px_has G_compare (hr.mono (by decide)) tk (by rfl) (FL.pax_cons (FL.px_fldA [101] T.all (by decide +kernel) (FL.px_var 5)) (FL.pax_cons (FL.px_var 4) FL.pax_nil))) FL.px_int (L2.nomark _))))) (FL.pssx_one (FL.psx_ret FL.px_str)) FL.pssx_nil) (FL.pssx_one (FL.psx_ret (FL.px_if (FL.ptx_cmp L2.op_gt FL.gt_ok (FL.px_has G_compare (hr.mono (by decide)) tk (by rfl) (FL.pax_cons (FL.px_fldA [101] T.all (by decide +kernel) (FL.px_var 5)) (FL.pax_cons (FL.px_var 4) FL.pax_nil))) FL.px_int (L2.nomark _)) FL.px_str FL.px_str))))))))))
abbrev N_law : List Str := ["script", "ds", "count", "bottom", "many", "rows", "told", "table", "low", "high", "least", "most", "far", "limit", "due", "ties", "best", "needless", "k", "others", "upper"]
theorem sc_law : L2.FnScope N_law ["script"] (L2.defScope s_law) := ⟨rfl, rfl, rfl, by decide +kernel, rfl, by decide +kernel, by decide +kernel⟩
def B_law_0 : SF := (sSeq (sSet 14 (eCall F__law_verdict [(eBin mulD (eC (.int 3)) (eVar 10)), (eIf (tVal (eBin isNonD (eVar 11) (eC .non))) (eC .non) (eBin mulD (eC (.int 3)) (eVar 11))), (eVar 13)])) (sIf (tVal (eBin neD (eCall F_limit_verdict [(eVar 2), (eCall (un1 listD) [(eVar 6)]), (eVar 8), (eVar 9), (eCall F__law_ratio [(eVar 13), (eBin mulD (eC (.int 3)) (eVar 3))])]) (eVar 14))) (sRet (eC (.bl false))) sNext))
theorem B_law_0_w {ρ : FL.Env} {w : Wd} : B_law_0 ρ w = (sSeq (sSet 14 (eCall F__law_verdict [(eBin mulD (eC (.int 3)) (eVar 10)), (eIf (tVal (eBin isNonD (eVar 11) (eC .non))) (eC .non) (eBin mulD (eC (.int 3)) (eVar 11))), (eVar 13)])) (sIf (tVal (eBin neD (eCall F_limit_verdict [(eVar 2), (eCall (un1 listD) [(eVar 6)]), (eVar 8), (eVar 9), (eCall F__law_ratio [(eVar 13), (eBin mulD (eC (.int 3)) (eVar 3))])]) (eVar 14))) (sRet (eC (.bl false))) sNext)) ρ w := rfl
def B_law_1 : SF := (sSeq (sSet 19 (eCall F__law_table [(eVar 2), (eBin addD (eSlice (eVar 5) none (some (eVar 18))) (eSlice (eVar 5) (some (eBin addD (eVar 18) (eC (.int 1)))) none))])) (sSeq (sSet 20 (eBin ixD (eBin ixD (eVar 19) (eBin ixD (eBin ixD (eVar 5) (eVar 18)) (eC (.int 0)))) (eBin ixD (eBin ixD (eVar 5) (eVar 18)) (eC (.int 1))))) (sIf (tAnd (tVal (eBin notNonD (eVar 20) (eC .non))) (tAnd (tVal (eBin leD (eVar 20) (eBin ixD (eBin ixD (eVar 5) (eVar 18)) (eC (.int 3))))) (tVal (eBin geD (eUn negD (eBin ixD (eBin ixD (eVar 19) (eBin ixD (eBin ixD (eVar 5) (eVar 18)) (eC (.int 1)))) (eBin ixD (eBin ixD (eVar 5) (eVar 18)) (eC (.int 0))))) (eBin ixD (eBin ixD (eVar 5) (eVar 18)) (eC (.int 2))))))) (sApp 17 (eVar 18)) sNext)))
theorem B_law_1_w {ρ : FL.Env} {w : Wd} : B_law_1 ρ w = (sSeq (sSet 19 (eCall F__law_table [(eVar 2), (eBin addD (eSlice (eVar 5) none (some (eVar 18))) (eSlice (eVar 5) (some (eBin addD (eVar 18) (eC (.int 1)))) none))])) (sSeq (sSet 20 (eBin ixD (eBin ixD (eVar 19) (eBin ixD (eBin ixD (eVar 5) (eVar 18)) (eC (.int 0)))) (eBin ixD (eBin ixD (eVar 5) (eVar 18)) (eC (.int 1))))) (sIf (tAnd (tVal (eBin notNonD (eVar 20) (eC .non))) (tAnd (tVal (eBin leD (eVar 20) (eBin ixD (eBin ixD (eVar 5) (eVar 18)) (eC (.int 3))))) (tVal (eBin geD (eUn negD (eBin ixD (eBin ixD (eVar 19) (eBin ixD (eBin ixD (eVar 5) (eVar 18)) (eC (.int 1)))) (eBin ixD (eBin ixD (eVar 5) (eVar 18)) (eC (.int 0))))) (eBin ixD (eBin ixD (eVar 5) (eVar 18)) (eC (.int 2))))))) (sApp 17 (eVar 18)) sNext))) ρ w := rfl
def F_law : List D → M D := callF 21 (sSeq (sSet 1 (eCall F__law_digits [(eCall F__law_cell [(eVar 0), (eC (.int 0))]), (eC (.int 24))])) (sSeq (sSet 2 (eBin addD (eC (.int 1)) (eBin modD (eCall (un1 intD) [(eBin ixD (eVar 1) (eC (.int 0)))]) (eC (.int 6))))) (sSeq (sSet 3 (eBin addD (eC (.int 1)) (eBin modD (eCall (un1 intD) [(eBin ixD (eVar 1) (eC (.int 1)))]) (eC (.int 3))))) (sSeq (sSet 4 (eBin modD (eBin fdivD (eCall (un1 intD) [(eBin ixD (eVar 1) (eC (.int 0)))]) (eC (.int 6))) (eC (.int 9)))) (sSeq (sOwn 5 (nCall F__law_round_true [(eVar 1), (eC (.int 8)), (eVar 4), (eCall F__law_weights [(eVar 1), (eC (.int 2)), (eVar 2)])])) (sSeq (sIf (tAnd (tVal (eBin gtD (eVar 4) (eC (.int 1)))) (tVal (eBin eqD (eBin modD (eBin fdivD (eCall (un1 intD) [(eBin ixD (eVar 1) (eC (.int 1)))]) (eC (.int 3))) (eC (.int 3))) (eC (.int 0))))) (sItem 5 (eC (.int 0)) (eOwnIx 5 (eUn negD (eC (.int 1))))) sNext) (sSeq (sFrz 5) (sSeq (sSet 6 (eCall F__law_told [(eVar 5), (eVar 3)])) (sSeq (sSet 7 (eCall F__law_table [(eVar 2), (eVar 5)])) (sSeq (sUnp [8, 9] (eCall F__law_tie [(eBin ixD (eVar 1) (eC (.int 16))), (eVar 2)])) (sSeq (sSet 10 (eUn negD (eBin ixD (eBin ixD (eVar 7) (eVar 9)) (eVar 8)))) (sSeq (sSet 11 (eBin ixD (eBin ixD (eVar 7) (eVar 8)) (eVar 9))) (sSeq (sSet 12 (eIf (tVal (eBin isNonD (eVar 11) (eC .non))) (eBin addD (eVar 10) (eC (.int 9))) (eVar 11))) (sSeq (sFor (iSeq (eLst [(eBin subD (eBin mulD (eC (.int 3)) (eVar 10)) (eC (.int 1))), (eBin mulD (eC (.int 3)) (eVar 10)), (eBin addD (eBin mulD (eC (.int 3)) (eVar 10)) (eC (.int 1))), (eBin subD (eBin mulD (eC (.int 3)) (eVar 12)) (eC (.int 1))), (eBin mulD (eC (.int 3)) (eVar 12)), (eBin addD (eBin mulD (eC (.int 3)) (eVar 12)) (eC (.int 1)))])) (gN 13) B_law_0) (sSeq (sSet 15 (eNew (nLc (iRng (eC (.int 0)) (eBin modD (eCall (un1 intD) [(eBin ixD (eVar 1) (eC (.int 22)))]) (eC (.int 6)))) [18] (gN 18) tYes (eCall F__law_tie [(eBin ixD (eVar 1) (eBin addD (eC (.int 17)) (eVar 18))), (eVar 2)])))) (sSeq (sSet 16 (eCall F__law_widest [(eVar 7), (eVar 15)])) (sSeq (sIf (tAnd (tVal (eBin notNonD (eVar 16) (eC .non))) (tVal (eBin notNonD (eBin ixD (eVar 16) (eC (.int 1))) (eC .non)))) (sSet 16 (eTup [(eBin ixD (eVar 16) (eC (.int 0))), (eCall F__law_ratio [(eBin ixD (eVar 16) (eC (.int 1))), (eVar 3)])])) sNext) (sSeq (sIf (tVal (eBin neD (eCall F_next_tie [(eVar 2), (eVar 6), (eCall (un1 listD) [(eVar 15)])]) (eVar 16))) (sRet (eC (.bl false))) sNext) (sSeq (sOwn 17 (evs [])) (sSeq (sFor (iRng (eC (.int 0)) (eVar 4)) (gN 18) B_law_1) (sSeq (sFrz 17) (sSeq (sIf (tVal (eBin neD (eCall F_needless_tellings [(eVar 2), (eCall (un1 listD) [(eVar 6)])]) (eCall (un1 tupD) [(eVar 17)]))) (sRet (eC (.bl false))) sNext) (sSeq (sIf (tVal (eBin neD (eCall F_suspect_tellings [(eVar 2), (eVar 6)]) (eUn tupRgD (eVar 4)))) (sRet (eC (.bl false))) sNext) (sRet (eAnd (eBin eqD (eCall F_next_tie [(eVar 2), (eVar 6), (eCall (un1 tupD) [(eVar 15)])]) (eVar 16)) (eBin eqD (eCall F_needless_tellings [(eVar 2), (eVar 6)]) (eCall (un1 tupD) [(eVar 17)])))))))))))))))))))))))))))
theorem has_law (T : Tx P K mg cm) (G__law_cell : FL.Has P w K mg base cm "_law_cell" 2 ["script", "at"] [[]] [] 2 F__law_cell) (G__law_digits : FL.Has P w K mg base cm "_law_digits" 2 ["cell", "many"] [[]] [] 2 F__law_digits) (G__law_ratio : FL.Has P w K mg base cm "_law_ratio" 3 ["top", "bottom"] [[]] [] 2 F__law_ratio) (G__law_round_true : FL.HasL P w K mg base cm "_law_round_true" 3 ["ds", "on", "many", "weights"] 4 F__law_round_true) (G__law_table : FL.Has P w K mg base cm "_law_table" 2 ["count", "rows"] [[]] [] 2 F__law_table) (G__law_tie : FL.Has P w K mg base cm "_law_tie" 2 ["d", "count"] [[]] [] 2 F__law_tie) (G__law_told : FL.Has P w K mg base cm "_law_told" 4 ["rows", "bottom"] [[]] [] 2 F__law_told) (G__law_verdict : FL.Has P w K mg base cm "_law_verdict" 2 ["least", "most", "limit"] [[]] [] 3 F__law_verdict) (G__law_weights : FL.Has P w K mg base cm "_law_weights" 2 ["ds", "on", "count"] [[]] [] 3 F__law_weights) (G__law_widest : FL.Has P w K mg base cm "_law_widest" 2 ["table", "ties"] [[]] [] 2 F__law_widest) (G_limit_verdict : FL.Has P w K mg base cm "limit_verdict" 6 ["count", "tellings", "low", "high", "limit"] [[]] [] 5 F_limit_verdict) (G_needless_tellings : FL.Has P w K mg base cm "needless_tellings" 6 ["count", "tellings"] [[]] [] 2 F_needless_tellings) (G_next_tie : FL.Has P w K mg base cm "next_tie" 6 ["count", "tellings", "ties"] [[]] [] 3 F_next_tie) (G_suspect_tellings : FL.Has P w K mg base cm "suspect_tellings" 5 ["count", "tellings"] [[]] [] 2 F_suspect_tellings) : FL.Has P w K mg base cm "law" 7 ["script"] [[]] [] 1 F_law :=
  FL.has_of T.d_law sc_law rfl rfl (by decide) (fun _ _ _ _ _ _ us hl => match us, hl with | [_], _ => rfl) (fun f cdv A outer s H E q hr => by have tk : L2N.Takes (L2.cxOf (L2N.CX P w) P w K mg base N_law "law" (L2.defScope s_law) f cdv A outer s H E) (fun cls d _ H' => E cls d H') := L2N.takes_of rfl rfl rfl rfl; have pa : PassesOwn (model P w) (L2.cxOf (L2N.CX P w) P w K mg base N_law "law" (L2.defScope s_law) f cdv A outer s H E).A (L2.cxOf (L2N.CX P w) P w K mg base N_law "law" (L2.defScope s_law) f cdv A outer s H E).env (L2.cxOf (L2N.CX P w) P w K mg base N_law "law" (L2.defScope s_law) f cdv A outer s H E).xe := L2.passes_of rfl; exact (FL.pssx_cons (FL.psx_set sc_law.nd (i := 1) rfl (by first | exact Or.inl rfl | exact Or.inr rfl) (FL.px_has G__law_digits (hr.mono (by decide)) tk (by rfl) (FL.pax_cons (FL.px_has G__law_cell (hr.mono (by decide)) tk (by rfl) (FL.pax_cons (FL.px_var 0) (FL.pax_cons FL.px_int FL.pax_nil))) (FL.pax_cons FL.px_int FL.pax_nil)))) (FL.pssx_cons (FL.psx_set sc_law.nd (i := 2) rfl (by first | exact Or.inl rfl | exact Or.inr rfl) (FL.px_bin FL.op_addA FL.add_ok FL.px_int (FL.px_bin L2.op_modN FL.mod_ok (FL.px_callTy L2.call_int1 FL.int_ok (by rfl) T.n_int FL.bt_int (FL.pax_cons (FL.px_ix (FL.px_var 1) FL.px_int) FL.pax_nil)) FL.px_int))) (FL.pssx_cons (FL.psx_set sc_law.nd (i := 3) rfl (by first | exact Or.inl rfl | exact Or.inr rfl) (FL.px_bin FL.op_addA FL.add_ok FL.px_int (FL.px_bin L2.op_modN FL.mod_ok (FL.px_callTy L2.call_int1 FL.int_ok (by rfl) T.n_int FL.bt_int (FL.pax_cons (FL.px_ix (FL.px_var 1) FL.px_int) FL.pax_nil)) FL.px_int))) (FL.pssx_cons (FL.psx_set sc_law.nd (i := 4) rfl (by first | exact Or.inl rfl | exact Or.inr rfl) (FL.px_bin L2.op_modN FL.mod_ok (FL.px_bin FL.op_fdivZ FL.fdiv_ok (FL.px_callTy L2.call_int1 FL.int_ok (by rfl) T.n_int FL.bt_int (FL.pax_cons (FL.px_ix (FL.px_var 1) FL.px_int) FL.pax_nil)) FL.px_int) FL.px_int)) (FL.pssx_cons (FL.psx_own sc_law.nd (i := 5) rfl (by first | exact Or.inl rfl | exact Or.inr rfl) (FL.pnx_call G__law_round_true (hr.mono (by decide)) tk (by rfl) (FL.pax_cons (FL.px_var 1) (FL.pax_cons FL.px_int (FL.pax_cons (FL.px_var 4) (FL.pax_cons (FL.px_has G__law_weights (hr.mono (by decide)) tk (by rfl) (FL.pax_cons (FL.px_var 1) (FL.pax_cons FL.px_int (FL.pax_cons (FL.px_var 2) FL.pax_nil)))) FL.pax_nil)))))) (FL.pssx_cons (FL.psx_if (FL.PWX.pt (FL.pwx_and (FL.ptx_cmp L2.op_gt FL.gt_ok (FL.px_var 4) FL.px_int (L2.nomark _)) (FL.pwx_and1 (FL.ptx_cmp (L2.op_eqD (FL.hu64 hr)) FL.eq_ok (FL.px_bin L2.op_modN FL.mod_ok (FL.px_bin FL.op_fdivZ FL.fdiv_ok (FL.px_callTy L2.call_int1 FL.int_ok (by rfl) T.n_int FL.bt_int (FL.pax_cons (FL.px_ix (FL.px_var 1) FL.px_int) FL.pax_nil)) FL.px_int) FL.px_int) FL.px_int (L2.nomark _))))) (FL.pssx_one (FL.psx_item 5 (FL.px_ownIx 5 (FL.px_un L2.un_neg FL.neg_ok FL.px_int)) FL.px_int (L2.pg_sub (L2.pe_var (i := 5) rfl (by first | exact Or.inl rfl | exact Or.inr (Or.inl rfl) | exact Or.inr (Or.inr rfl))) FL.px_int L2.set_list))) FL.pssx_nil) (FL.pssx_frz 5 (FL.pssx_cons (FL.psx_set sc_law.nd (i := 6) rfl (by first | exact Or.inl rfl | exact Or.inr rfl) (FL.px_has G__law_told (hr.mono (by decide)) tk (by rfl) (FL.pax_cons (FL.px_var 5) (FL.pax_cons (FL.px_var 3) FL.pax_nil)))) (FL.pssx_cons (FL.psx_set sc_law.nd (i := 7) rfl (by first | exact Or.inl rfl | exact Or.inr rfl) (FL.px_has G__law_table (hr.mono (by decide)) tk (by rfl) (FL.pax_cons (FL.px_var 2) (FL.pax_cons (FL.px_var 5) FL.pax_nil)))) (FL.pssx_cons (FL.psx_unp (is := [8, 9]) (FL.px_has G__law_tie (hr.mono (by decide)) tk (by rfl) (FL.pax_cons (FL.px_ix (FL.px_var 1) FL.px_int) (FL.pax_cons (FL.px_var 2) FL.pax_nil))) (L2.pg_tup rfl (L2.pgs_cons (L2.pg_name (i := 8) sc_law.nd rfl (by first | exact Or.inl rfl | exact Or.inr rfl)) (L2.pgs_cons (L2.pg_name (i := 9) sc_law.nd rfl (by first | exact Or.inl rfl | exact Or.inr rfl)) L2.pgs_nil)))) (FL.pssx_cons (FL.psx_set sc_law.nd (i := 10) rfl (by first | exact Or.inl rfl | exact Or.inr rfl) (FL.px_un L2.un_neg FL.neg_ok (FL.px_ix (FL.px_ix (FL.px_var 7) (FL.px_var 9)) (FL.px_var 8)))) (FL.pssx_cons (FL.psx_set sc_law.nd (i := 11) rfl (by first | exact Or.inl rfl | exact Or.inr rfl) (FL.px_ix (FL.px_ix (FL.px_var 7) (FL.px_var 8)) (FL.px_var 9))) (FL.pssx_cons (FL.psx_set sc_law.nd (i := 12) rfl (by first | exact Or.inl rfl | exact Or.inr rfl) (FL.px_if (FL.ptx_cmp L2.op_isN FL.isNon_ok (FL.px_var 11) FL.px_non (L2.nomark _)) (FL.px_bin FL.op_addA FL.add_ok (FL.px_var 10) FL.px_int) (FL.px_var 11))) (FL.pssx_cons (FL.psx_for pa rfl (FL.pix_any (FL.px_lst (FL.pax_cons (FL.px_bin L2.op_sub FL.sub_ok (FL.px_bin FL.op_mulB FL.mul_ok FL.px_int (FL.px_var 10)) FL.px_int) (FL.pax_cons (FL.px_bin FL.op_mulB FL.mul_ok FL.px_int (FL.px_var 10)) (FL.pax_cons (FL.px_bin FL.op_addA FL.add_ok (FL.px_bin FL.op_mulB FL.mul_ok FL.px_int (FL.px_var 10)) FL.px_int) (FL.pax_cons (FL.px_bin L2.op_sub FL.sub_ok (FL.px_bin FL.op_mulB FL.mul_ok FL.px_int (FL.px_var 12)) FL.px_int) (FL.pax_cons (FL.px_bin FL.op_mulB FL.mul_ok FL.px_int (FL.px_var 12)) (FL.pax_cons (FL.px_bin FL.op_addA FL.add_ok (FL.px_bin FL.op_mulB FL.mul_ok FL.px_int (FL.px_var 12)) FL.px_int) FL.pax_nil)))))))) (L2.pg_name (i := 13) sc_law.nd rfl (by first | exact Or.inl rfl | exact Or.inr rfl)) (FL.tgx_n 13) (FL.pssx_cons (FL.psx_set sc_law.nd (i := 14) rfl (by first | exact Or.inl rfl | exact Or.inr rfl) (FL.px_has G__law_verdict (hr.mono (by decide)) tk (by rfl) (FL.pax_cons (FL.px_bin FL.op_mulB FL.mul_ok FL.px_int (FL.px_var 10)) (FL.pax_cons (FL.px_if (FL.ptx_cmp L2.op_isN FL.isNon_ok (FL.px_var 11) FL.px_non (L2.nomark _)) FL.px_non (FL.px_bin FL.op_mulB FL.mul_ok FL.px_int (FL.px_var 11))) (FL.pax_cons (FL.px_var 13) FL.pax_nil))))) (FL.pssx_one (FL.psx_if (FL.ptx_cmp (L2.op_neD (FL.hu64 hr)) FL.ne_ok (FL.px_has G_limit_verdict (hr.mono (by decide)) tk (by rfl) (FL.pax_cons (FL.px_var 2) (FL.pax_cons (FL.px_callTy L2.call_list_of FL.list_ok (by rfl) T.n_list FL.bt_list (FL.pax_cons (FL.px_var 6) FL.pax_nil)) (FL.pax_cons (FL.px_var 8) (FL.pax_cons (FL.px_var 9) (FL.pax_cons (FL.px_has G__law_ratio (hr.mono (by decide)) tk (by rfl) (FL.pax_cons (FL.px_var 13) (FL.pax_cons (FL.px_bin FL.op_mulB FL.mul_ok FL.px_int (FL.px_var 3)) FL.pax_nil))) FL.pax_nil)))))) (FL.px_var 14) (L2.nomark _)) (FL.pssx_one (FL.psx_ret FL.px_bl)) FL.pssx_nil)))) (FL.pssx_cons (FL.psx_setLc (i := 15) (own := [("k", 18)]) rfl sc_law.nd rfl rfl (L2.sw_true rfl rfl rfl (by decide +kernel)) (FL.pix_range1 (by rfl) T.n_range (FL.px_bin L2.op_modN FL.mod_ok (FL.px_callTy L2.call_int1 FL.int_ok (by rfl) T.n_int FL.bt_int (FL.pax_cons (FL.px_ix (FL.px_var 1) FL.px_int) FL.pax_nil)) FL.px_int)) (L2.blkOk_by (N := N_law) (sc := L2.defScope s_law) (by decide +kernel)) rfl (fun _ _ _ _ _ => (L2.pg_name (i := 18) sc_law.nd rfl (by first | exact Or.inl rfl | exact Or.inr rfl))) (FL.tgx_n 18) (fun _ _ _ _ _ => FL.ptsx0) (fun _ _ _ _ _ => (FL.px_has G__law_tie (hr.mono (by decide)) FL.takes0N (by rfl) (FL.pax_cons (FL.px_ix (FL.px_var 1) (FL.px_bin FL.op_addA FL.add_ok FL.px_int (FL.px_var 18))) (FL.pax_cons (FL.px_var 2) FL.pax_nil))))) (FL.pssx_cons (FL.psx_set sc_law.nd (i := 16) rfl (by first | exact Or.inl rfl | exact Or.inr rfl) (FL.px_has G__law_widest (hr.mono (by decide)) tk (by rfl) (FL.pax_cons (FL.px_var 7) (FL.pax_cons (FL.px_var 15) FL.pax_nil)))) (FL.pssx_cons (FL.psx_if (FL.PWX.pt (FL.pwx_and (FL.ptx_cmp L2.op_notN FL.notNon_ok (FL.px_var 16) FL.px_non (L2.nomark _)) (FL.pwx_and1 (FL.ptx_cmp L2.op_notN FL.notNon_ok (FL.px_ix (FL.px_var 16) FL.px_int) FL.px_non (L2.nomark _))))) (FL.pssx_one (FL.psx_set sc_law.nd (i := 16) rfl (by first | exact Or.inl rfl | exact Or.inr rfl) (FL.px_tup (FL.pax_cons (FL.px_ix (FL.px_var 16) FL.px_int) (FL.pax_cons (FL.px_has G__law_ratio (hr.mono (by decide)) tk (by rfl) (FL.pax_cons (FL.px_ix (FL.px_var 16) FL.px_int) (FL.pax_cons (FL.px_var 3) FL.pax_nil))) FL.pax_nil))))) FL.pssx_nil) (FL.pssx_cons (FL.psx_if (FL.ptx_cmp (L2.op_neD (FL.hu64 hr)) FL.ne_ok (FL.px_has G_next_tie (hr.mono (by decide)) tk (by rfl) (FL.pax_cons (FL.px_var 2) (FL.pax_cons (FL.px_var 6) (FL.pax_cons (FL.px_callTy L2.call_list_of FL.list_ok (by rfl) T.n_list FL.bt_list (FL.pax_cons (FL.px_var 15) FL.pax_nil)) FL.pax_nil)))) (FL.px_var 16) (L2.nomark _)) (FL.pssx_one (FL.psx_ret FL.px_bl)) FL.pssx_nil) (FL.pssx_cons (FL.psx_own sc_law.nd (i := 17) rfl (by first | exact Or.inl rfl | exact Or.inr rfl) (FL.pnx_lst FL.pax_nil)) (FL.pssx_cons (FL.psx_for pa rfl (FL.pix_range1 (by rfl) T.n_range (FL.px_var 4)) (L2.pg_name (i := 18) sc_law.nd rfl (by first | exact Or.inl rfl | exact Or.inr rfl)) (FL.tgx_n 18) (FL.pssx_cons (FL.psx_set sc_law.nd (i := 19) rfl (by first | exact Or.inl rfl | exact Or.inr rfl) (FL.px_has G__law_table (hr.mono (by decide)) tk (by rfl) (FL.pax_cons (FL.px_var 2) (FL.pax_cons (FL.px_bin FL.op_addA FL.add_ok (FL.px_slice (FL.px_var 5) FL.pox_none (FL.pox_some (FL.px_var 18))) (FL.px_slice (FL.px_var 5) (FL.pox_some (FL.px_bin FL.op_addA FL.add_ok (FL.px_var 18) FL.px_int)) FL.pox_none)) FL.pax_nil)))) (FL.pssx_cons (FL.psx_set sc_law.nd (i := 20) rfl (by first | exact Or.inl rfl | exact Or.inr rfl) (FL.px_ix (FL.px_ix (FL.px_var 19) (FL.px_ix (FL.px_ix (FL.px_var 5) (FL.px_var 18)) FL.px_int)) (FL.px_ix (FL.px_ix (FL.px_var 5) (FL.px_var 18)) FL.px_int))) (FL.pssx_one (FL.psx_if (FL.PWX.pt (FL.pwx_and (FL.ptx_cmp L2.op_notN FL.notNon_ok (FL.px_var 20) FL.px_non (L2.nomark _)) (FL.pwx_and (FL.ptx_cmp L2.op_le FL.le_ok (FL.px_var 20) (FL.px_ix (FL.px_ix (FL.px_var 5) (FL.px_var 18)) FL.px_int) (L2.nomark _)) (FL.pwx_and1 (FL.ptx_cmp L2.op_ge FL.ge_ok (FL.px_un L2.un_neg FL.neg_ok (FL.px_ix (FL.px_ix (FL.px_var 19) (FL.px_ix (FL.px_ix (FL.px_var 5) (FL.px_var 18)) FL.px_int)) (FL.px_ix (FL.px_ix (FL.px_var 5) (FL.px_var 18)) FL.px_int))) (FL.px_ix (FL.px_ix (FL.px_var 5) (FL.px_var 18)) FL.px_int) (L2.nomark _)))))) (FL.pssx_one (FL.psx_appE 17 (FL.px_var 18))) FL.pssx_nil))))) (FL.pssx_frz 17 (FL.pssx_cons (FL.psx_if (FL.ptx_cmp (L2.op_neD (FL.hu64 hr)) FL.ne_ok (FL.px_has G_needless_tellings (hr.mono (by decide)) tk (by rfl) (FL.pax_cons (FL.px_var 2) (FL.pax_cons (FL.px_callTy L2.call_list_of FL.list_ok (by rfl) T.n_list FL.bt_list (FL.pax_cons (FL.px_var 6) FL.pax_nil)) FL.pax_nil))) (FL.px_callTy L2.call_tuple_of FL.tuple_ok (by rfl) T.n_tuple FL.bt_tuple (FL.pax_cons (FL.px_var 17) FL.pax_nil)) (L2.nomark _)) (FL.pssx_one (FL.psx_ret FL.px_bl)) FL.pssx_nil) (FL.pssx_cons (FL.psx_if (FL.ptx_cmp (L2.op_neD (FL.hu64 hr)) FL.ne_ok (FL.px_has G_suspect_tellings (hr.mono (by decide)) tk (by rfl) (FL.pax_cons (FL.px_var 2) (FL.pax_cons (FL.px_var 6) FL.pax_nil))) (FL.px_tupRg rfl (by rfl) T.n_tuple (by rfl) T.n_range (FL.px_var 4)) (L2.nomark _)) (FL.pssx_one (FL.psx_ret FL.px_bl)) FL.pssx_nil) (FL.pssx_one (FL.psx_ret (FL.px_and (FL.px_cmp (L2.op_eqD (FL.hu64 hr)) FL.eq_ok (FL.px_has G_next_tie (hr.mono (by decide)) tk (by rfl) (FL.pax_cons (FL.px_var 2) (FL.pax_cons (FL.px_var 6) (FL.pax_cons (FL.px_callTy L2.call_tuple_of FL.tuple_ok (by rfl) T.n_tuple FL.bt_tuple (FL.pax_cons (FL.px_var 15) FL.pax_nil)) FL.pax_nil)))) (FL.px_var 16) (L2.nomark _)) (FL.px_one (FL.px_cmp (L2.op_eqD (FL.hu64 hr)) FL.eq_ok (FL.px_has G_needless_tellings (hr.mono (by decide)) tk (by rfl) (FL.pax_cons (FL.px_var 2) (FL.pax_cons (FL.px_var 6) FL.pax_nil))) (FL.px_callTy L2.call_tuple_of FL.tuple_ok (by rfl) T.n_tuple FL.bt_tuple (FL.pax_cons (FL.px_var 17) FL.pax_nil)) (L2.nomark _))))))))))))))))))))))))))))))
theorem has_all (T : Tx P K mg cm) : FL.Has P w K mg base cm "law" 7 ["script"] [[]] [] 1 F_law := by
  have G__law_digits := has__law_digits (P := P) (w := w) (base := base) T 
  have G__law_tie := has__law_tie (P := P) (w := w) (base := base) T 
  have G__law_round_true := has__law_round_true (P := P) (w := w) (base := base) T G__law_tie
  have G__law_gcd := has__law_gcd (P := P) (w := w) (base := base) T 
  have G__law_ratio := has__law_ratio (P := P) (w := w) (base := base) T G__law_gcd
  have G__law_told := has__law_told (P := P) (w := w) (base := base) T G__law_ratio
  have G__law_table := has__law_table (P := P) (w := w) (base := base) T 
  have G__law_widest := has__law_widest (P := P) (w := w) (base := base) T 
  have G__law_cell := has__law_cell (P := P) (w := w) (base := base) T 
  have G__law_weights := has__law_weights (P := P) (w := w) (base := base) T 
  have G__law_verdict := has__law_verdict (P := P) (w := w) (base := base) T 
  have G_is_whole := has_is_whole (P := P) (w := w) (base := base) T 
  have G_check_count := has_check_count (P := P) (w := w) (base := base) T G_is_whole
  have G_are_marks := has_are_marks (P := P) (w := w) (base := base) T G_is_whole
  have G_compare := has_compare (P := P) (w := w) (base := base) T 
  have G_is_ratio := has_is_ratio (P := P) (w := w) (base := base) T G_is_whole
  have G_check_tellings := has_check_tellings (P := P) (w := w) (base := base) T G_are_marks G_check_count G_compare G_is_ratio
  have G_check_ties := has_check_ties (P := P) (w := w) (base := base) T G_are_marks G_check_count
  have G_negative := has_negative (P := P) (w := w) (base := base) T 
  have G_bounds_by := has_bounds_by (P := P) (w := w) (base := base) T G_negative
  have G_bottom_of := has_bottom_of (P := P) (w := w) (base := base) T 
  have G_spread_amounts := has_spread_amounts (P := P) (w := w) (base := base) T 
  have G_NoCart___init__ := has_NoCart___init__ (P := P) (w := w) (base := base) T 
  have G_ring_through := has_ring_through (P := P) (w := w) (base := base) T 
  have G__lowest := has__lowest (P := P) (w := w) (base := base) T 
  have G_make_ratio := has_make_ratio (P := P) (w := w) (base := base) T G__lowest G_is_whole
  have G_weights_by := has_weights_by (P := P) (w := w) (base := base) T G_NoCart___init__ G_bottom_of G_bounds_by G_make_ratio G_ring_through G_spread_amounts
  have G_check_fit := has_check_fit (P := P) (w := w) (base := base) T G_weights_by
  have G_trail_back := has_trail_back (P := P) (w := w) (base := base) T 
  have G_farthest_sum := has_farthest_sum (P := P) (w := w) (base := base) T G_bottom_of G_bounds_by G_make_ratio G_spread_amounts G_trail_back
  have G_SumBounds___init__ := has_SumBounds___init__ (P := P) (w := w) (base := base) T 
  have G_bounds_between := has_bounds_between (P := P) (w := w) (base := base) T G_SumBounds___init__ G_farthest_sum G_negative
  have G_minus := has_minus (P := P) (w := w) (base := base) T G__lowest
  have G_next_tie := has_next_tie (P := P) (w := w) (base := base) T G_bounds_between G_check_fit G_check_tellings G_check_ties G_compare G_minus
  have G_needless_tellings := has_needless_tellings (P := P) (w := w) (base := base) T G_bounds_between G_check_fit G_check_tellings G_compare
  have G_suspect_tellings := has_suspect_tellings (P := P) (w := w) (base := base) T G_check_tellings G_weights_by
  have G_check_marks := has_check_marks (P := P) (w := w) (base := base) T G_are_marks
  have G_limit_verdict := has_limit_verdict (P := P) (w := w) (base := base) T G_bounds_between G_check_fit G_check_marks G_check_tellings G_compare G_is_ratio
  have G_law := has_law (P := P) (w := w) (base := base) T G__law_cell G__law_digits G__law_ratio G__law_round_true G__law_table G__law_tie G__law_told G__law_verdict G__law_weights G__law_widest G_limit_verdict G_needless_tellings G_next_tie G_suspect_tellings
  exact G_law
end
theorem law_mk {P : Program} {w : World} {K : PySem.W.Frag} {mg : Str → Option Value} (h : ∃ cm, Tx P K mg cm) : ∃ (cm : Nat → Addr) (f : Addr) (fd : FuncData), mg "law" = some (.ref f) ∧ (∀ (s : Shared) (u : Value), BindsTo s fd ⟨[u], []⟩ [("script", u)]) ∧
    ∀ base : Heap, K.In base → base.Ns mainGlobals mg → FnOk P w K mg base (L2N.CX P w) 7 f fd ["script"] (spX K cm 1 F_law) := by
  obtain ⟨cm, T⟩ := h
  exact FL.law_fin (cm := cm) T.d_law (fun _ _ _ _ _ _ us hl => match us, hl with | [_], _ => rfl) fun base => has_all T
end K49
namespace K49
open PySem FL
open L2 (V Hp FnOk Vals Binds)
open L2 in
theorem all_mkH {P : Program} {K : PySem.W.Frag} {h : Heap} {mg : Str → Option Value} (M : FL.MainOk P) (X : K.In h) (G : h.Ns mainGlobals mg) (c : FL.SaysH cks fns bls K) : ∃ cm, Tx P K mg cm :=
  ⟨fun k => match k with | 1 => He.ga K "BadRatio" | 2 => He.ga K "BadAmount" | 3 => He.ga K "BadCount" | 4 => He.ga K "BadTie" | 5 => He.ga K "BadMarks" | 6 => He.ga K "BadTelling" | 7 => He.ga K "NoFit" | 100 => He.ga K "NoCart" | 101 => He.ga K "SumBounds" | _ => 0, {
    g_gcd := PySem.W.mg_of X G (c.blt 0 (p := ("gcd", "math.gcd")) rfl)
    g_lcm := PySem.W.mg_of X G (c.blt 1 (p := ("lcm", "math.lcm")) rfl)
    n_abs := FL.ckFree_ok X G (c.fact 0)
    n_bool := FL.ckFree_ok X G (c.fact 1)
    n_enumerate := FL.ckFree_ok X G (c.fact 2)
    n_int := FL.ckFree_ok X G (c.fact 3)
    n_isinstance := FL.ckFree_ok X G (c.fact 4)
    n_len := FL.ckFree_ok X G (c.fact 5)
    n_list := FL.ckFree_ok X G (c.fact 6)
    n_range := FL.ckFree_ok X G (c.fact 7)
    n_sum := FL.ckFree_ok X G (c.fact 8)
    n_tuple := FL.ckFree_ok X G (c.fact 9)
    c_ZERO := FL.ckTup_ok X G (c.fact 10)
    x_1 := FL.ckGlo_ok X G (c.fact 11)
    exc_1 := FL.excG1 (st := si_1) (ps := ["self", "what"]) (d := dn_0) (FL.ckExc_ok (c.fact 12)) (FL.ckMeth_ok (c.fact 13)) rfl (c.def_ 0 (d := dn_0) rfl) rfl rfl rfl rfl rfl rfl ⟨rfl, rfl, rfl, by decide +kernel, rfl, by decide +kernel, by decide +kernel⟩ rfl (FL.ckGlo_ok X G (c.fact 11)) (FL.ckNoat_ok (c.fact 14)) rfl (fun _ _ _ _ _ _ us hl => match us, hl with | [_, _], _ => rfl)
    x_2 := FL.ckGlo_ok X G (c.fact 15)
    exc_2 := FL.excS1 (x := "BadAmount") (d := dn_1) M (c.fact 16) (c.fact 17) (c.fact 18) (c.fact 19) (c.fact 20) (c.raw 1 (d := dn_1) rfl) (FL.ckGlo_ok X G (c.fact 15)) (c.fact 21) rfl rfl rfl rfl rfl ⟨rfl, rfl, rfl, by decide +kernel, rfl, by decide +kernel, by decide +kernel, by decide +kernel, rfl, rfl, rfl⟩ rfl rfl (.str .nil) (by decide) (fun _ _ _ _ _ _ _ us hl => match us, hl with | [_, _], _ => rfl) (by decide) (by decide) (by decide) (by decide) (fun _ => rfl) (fun _ => rfl) (fun _ => rfl) (fun _ => rfl) (fun _ => ⟨_, rfl⟩)
    x_3 := FL.ckGlo_ok X G (c.fact 22)
    exc_3 := FL.excS1 (x := "BadCount") (d := dn_2) M (c.fact 23) (c.fact 24) (c.fact 25) (c.fact 19) (c.fact 20) (c.raw 2 (d := dn_2) rfl) (FL.ckGlo_ok X G (c.fact 22)) (c.fact 26) rfl rfl rfl rfl rfl ⟨rfl, rfl, rfl, by decide +kernel, rfl, by decide +kernel, by decide +kernel, by decide +kernel, rfl, rfl, rfl⟩ rfl rfl (.str .nil) (by decide) (fun _ _ _ _ _ _ _ us hl => match us, hl with | [_, _], _ => rfl) (by decide) (by decide) (by decide) (by decide) (fun _ => rfl) (fun _ => rfl) (fun _ => rfl) (fun _ => rfl) (fun _ => ⟨_, rfl⟩)
    x_4 := FL.ckGlo_ok X G (c.fact 27)
    exc_4 := FL.excS2 (x := "BadTie") (d := dn_3) M (c.fact 28) (c.fact 29) (c.fact 30) (c.fact 19) (c.fact 20) (c.raw 3 (d := dn_3) rfl) (FL.ckGlo_ok X G (c.fact 27)) (c.fact 31) (c.fact 32) rfl rfl rfl rfl rfl ⟨rfl, rfl, rfl, by decide +kernel, rfl, by decide +kernel, by decide +kernel, by decide +kernel, rfl, rfl, rfl⟩ rfl rfl (.str .nil) (by decide) (fun _ _ _ _ _ _ _ us hl => match us, hl with | [_, _, _], _ => rfl) (by decide) (by decide) (by decide) (by decide) (by decide) (by decide) (fun _ => rfl) (fun _ => rfl) (fun _ => rfl) (fun _ => rfl) (fun _ => rfl) (fun _ => ⟨_, rfl⟩)
    x_5 := FL.ckGlo_ok X G (c.fact 33)
    exc_5 := FL.excS2 (x := "BadMarks") (d := dn_4) M (c.fact 34) (c.fact 35) (c.fact 36) (c.fact 19) (c.fact 20) (c.raw 4 (d := dn_4) rfl) (FL.ckGlo_ok X G (c.fact 33)) (c.fact 37) (c.fact 38) rfl rfl rfl rfl rfl ⟨rfl, rfl, rfl, by decide +kernel, rfl, by decide +kernel, by decide +kernel, by decide +kernel, rfl, rfl, rfl⟩ rfl rfl (.str .nil) (by decide) (fun _ _ _ _ _ _ _ us hl => match us, hl with | [_, _, _], _ => rfl) (by decide) (by decide) (by decide) (by decide) (by decide) (by decide) (fun _ => rfl) (fun _ => rfl) (fun _ => rfl) (fun _ => rfl) (fun _ => rfl) (fun _ => ⟨_, rfl⟩)
    x_6 := FL.ckGlo_ok X G (c.fact 39)
    exc_6 := FL.excS2 (x := "BadTelling") (d := dn_5) M (c.fact 40) (c.fact 41) (c.fact 42) (c.fact 19) (c.fact 20) (c.raw 5 (d := dn_5) rfl) (FL.ckGlo_ok X G (c.fact 39)) (c.fact 43) (c.fact 44) rfl rfl rfl rfl rfl ⟨rfl, rfl, rfl, by decide +kernel, rfl, by decide +kernel, by decide +kernel, by decide +kernel, rfl, rfl, rfl⟩ rfl rfl (.str .nil) (by decide) (fun _ _ _ _ _ _ _ us hl => match us, hl with | [_, _, _], _ => rfl) (by decide) (by decide) (by decide) (by decide) (by decide) (by decide) (fun _ => rfl) (fun _ => rfl) (fun _ => rfl) (fun _ => rfl) (fun _ => rfl) (fun _ => ⟨_, rfl⟩)
    x_7 := FL.ckGlo_ok X G (c.fact 45)
    exc_7 := FL.excS1 (x := "NoFit") (d := dn_6) M (c.fact 46) (c.fact 47) (c.fact 48) (c.fact 19) (c.fact 20) (c.raw 6 (d := dn_6) rfl) (FL.ckGlo_ok X G (c.fact 45)) (c.fact 49) rfl rfl rfl rfl rfl ⟨rfl, rfl, rfl, by decide +kernel, rfl, by decide +kernel, by decide +kernel, by decide +kernel, rfl, rfl, rfl⟩ rfl rfl (.str .nil) (by decide) (fun _ _ _ _ _ _ _ us hl => match us, hl with | [_, _], _ => rfl) (by decide) (by decide) (by decide) (by decide) (fun _ => rfl) (fun _ => rfl) (fun _ => rfl) (fun _ => rfl) (fun _ => ⟨_, rfl⟩)
    x_100 := FL.ckGlo_ok X G (c.fact 50)
    x_101 := FL.ckGlo_ok X G (c.fact 51)
    all := ⟨(FL.al_c (FL.clsF_of (c.fact 54)) (FL.al_c (FL.clsF_of (c.fact 52)) FL.al_n)), (FL.al_c ⟨_, _, FL.methH_at (st := s_NoCart___init__) (d := dn_8) rfl (FL.ckMeth_ok (c.fact 55)) (c.def_ 8 (d := dn_8) rfl)⟩ (FL.al_c ⟨_, _, FL.methH_at (st := s_SumBounds___init__) (d := dn_7) rfl (FL.ckMeth_ok (c.fact 53)) (c.def_ 7 (d := dn_7) rfl)⟩ FL.al_n)), He.eqO_ok (c.fact 56), of_decide_eq_true (c.fact 57), by decide +kernel⟩
    d__law_digits := FL.defH_at (d := dn_9) rfl (FL.ckGlo_ok X G (c.fact 58)) (c.def_ 9 (d := dn_9) rfl)
    d__law_tie := FL.defH_at (d := dn_10) rfl (FL.ckGlo_ok X G (c.fact 59)) (c.def_ 10 (d := dn_10) rfl)
    d__law_round_true := FL.defH_at (d := dn_11) rfl (FL.ckGlo_ok X G (c.fact 60)) (c.def_ 11 (d := dn_11) rfl)
    d__law_gcd := FL.defH_at (d := dn_12) rfl (FL.ckGlo_ok X G (c.fact 61)) (c.def_ 12 (d := dn_12) rfl)
    d__law_ratio := FL.defH_at (d := dn_13) rfl (FL.ckGlo_ok X G (c.fact 62)) (c.def_ 13 (d := dn_13) rfl)
    d__law_told := FL.defH_at (d := dn_14) rfl (FL.ckGlo_ok X G (c.fact 63)) (c.def_ 14 (d := dn_14) rfl)
    d__law_table := FL.defH_at (d := dn_15) rfl (FL.ckGlo_ok X G (c.fact 64)) (c.def_ 15 (d := dn_15) rfl)
    d__law_widest := FL.defH_at (d := dn_16) rfl (FL.ckGlo_ok X G (c.fact 65)) (c.def_ 16 (d := dn_16) rfl)
    d__law_cell := FL.defH_at (d := dn_17) rfl (FL.ckGlo_ok X G (c.fact 66)) (c.def_ 17 (d := dn_17) rfl)
    d__law_weights := FL.defH_at (d := dn_18) rfl (FL.ckGlo_ok X G (c.fact 67)) (c.def_ 18 (d := dn_18) rfl)
    d__law_verdict := FL.defH_at (d := dn_19) rfl (FL.ckGlo_ok X G (c.fact 68)) (c.def_ 19 (d := dn_19) rfl)
    d_is_whole := FL.defH_at (d := dn_20) rfl (FL.ckGlo_ok X G (c.fact 69)) (c.def_ 20 (d := dn_20) rfl)
    d_check_count := FL.defH_at (d := dn_21) rfl (FL.ckGlo_ok X G (c.fact 70)) (c.def_ 21 (d := dn_21) rfl)
    d_are_marks := FL.defH_at (d := dn_22) rfl (FL.ckGlo_ok X G (c.fact 71)) (c.def_ 22 (d := dn_22) rfl)
    d_compare := FL.defH_at (d := dn_23) rfl (FL.ckGlo_ok X G (c.fact 72)) (c.def_ 23 (d := dn_23) rfl)
    d_is_ratio := FL.defH_at (d := dn_24) rfl (FL.ckGlo_ok X G (c.fact 73)) (c.def_ 24 (d := dn_24) rfl)
    d_check_tellings := FL.defH_at (d := dn_25) rfl (FL.ckGlo_ok X G (c.fact 74)) (c.def_ 25 (d := dn_25) rfl)
    d_check_ties := FL.defH_at (d := dn_26) rfl (FL.ckGlo_ok X G (c.fact 75)) (c.def_ 26 (d := dn_26) rfl)
    d_negative := FL.defH_at (d := dn_27) rfl (FL.ckGlo_ok X G (c.fact 76)) (c.def_ 27 (d := dn_27) rfl)
    d_bounds_by := FL.defH_at (d := dn_28) rfl (FL.ckGlo_ok X G (c.fact 77)) (c.def_ 28 (d := dn_28) rfl)
    d_bottom_of := FL.defH_at (d := dn_29) rfl (FL.ckGlo_ok X G (c.fact 78)) (c.def_ 29 (d := dn_29) rfl)
    d_spread_amounts := FL.defH_at (d := dn_30) rfl (FL.ckGlo_ok X G (c.fact 79)) (c.def_ 30 (d := dn_30) rfl)
    m_NoCart___init__ := FL.methH_at (st := s_NoCart___init__) (d := dn_8) rfl (FL.ckMeth_ok (c.fact 55)) (c.def_ 8 (d := dn_8) rfl)
    d_ring_through := FL.defH_at (d := dn_31) rfl (FL.ckGlo_ok X G (c.fact 80)) (c.def_ 31 (d := dn_31) rfl)
    d__lowest := FL.defH_at (d := dn_32) rfl (FL.ckGlo_ok X G (c.fact 81)) (c.def_ 32 (d := dn_32) rfl)
    d_make_ratio := FL.defH_at (d := dn_33) rfl (FL.ckGlo_ok X G (c.fact 82)) (c.def_ 33 (d := dn_33) rfl)
    d_weights_by := FL.defH_at (d := dn_34) rfl (FL.ckGlo_ok X G (c.fact 83)) (c.def_ 34 (d := dn_34) rfl)
    d_check_fit := FL.defH_at (d := dn_35) rfl (FL.ckGlo_ok X G (c.fact 84)) (c.def_ 35 (d := dn_35) rfl)
    d_trail_back := FL.defH_at (d := dn_36) rfl (FL.ckGlo_ok X G (c.fact 85)) (c.def_ 36 (d := dn_36) rfl)
    d_farthest_sum := FL.defH_at (d := dn_37) rfl (FL.ckGlo_ok X G (c.fact 86)) (c.def_ 37 (d := dn_37) rfl)
    m_SumBounds___init__ := FL.methH_at (st := s_SumBounds___init__) (d := dn_7) rfl (FL.ckMeth_ok (c.fact 53)) (c.def_ 7 (d := dn_7) rfl)
    d_bounds_between := FL.defH_at (d := dn_38) rfl (FL.ckGlo_ok X G (c.fact 87)) (c.def_ 38 (d := dn_38) rfl)
    d_minus := FL.defH_at (d := dn_39) rfl (FL.ckGlo_ok X G (c.fact 88)) (c.def_ 39 (d := dn_39) rfl)
    d_next_tie := FL.defH_at (d := dn_40) rfl (FL.ckGlo_ok X G (c.fact 89)) (c.def_ 40 (d := dn_40) rfl)
    d_needless_tellings := FL.defH_at (d := dn_41) rfl (FL.ckGlo_ok X G (c.fact 90)) (c.def_ 41 (d := dn_41) rfl)
    d_suspect_tellings := FL.defH_at (d := dn_42) rfl (FL.ckGlo_ok X G (c.fact 91)) (c.def_ 42 (d := dn_42) rfl)
    d_check_marks := FL.defH_at (d := dn_43) rfl (FL.ckGlo_ok X G (c.fact 92)) (c.def_ 43 (d := dn_43) rfl)
    d_limit_verdict := FL.defH_at (d := dn_44) rfl (FL.ckGlo_ok X G (c.fact 93)) (c.def_ 44 (d := dn_44) rfl)
    d_law := FL.defH_at (d := dn_45) rfl (FL.ckGlo_ok X G (c.fact 94)) (c.def_ 45 (d := dn_45) rfl)
  }⟩
end K49
namespace FL
open PySem
section
variable {α β : Type}
def bindK (r : R α) (f : α → M β) : R β := match r with
  | .ok a w => f a w
  | .ex c ns xs w => .ex c ns xs w
  | .bad => .bad
theorem bind_w (m : M α) (f : α → M β) (w : Wd) : M.bind m f w = bindK (m w) f := rfl
theorem bindK_ok (a : α) (w : Wd) (f : α → M β) : bindK (.ok a w) f = f a w := rfl
theorem bindK_ex (c : Nat) (ns : List Str) (xs : List D) (w : Wd) (f : α → M β) : bindK (.ex c ns xs w) f = .ex c ns xs w := rfl
theorem ret_w (a : α) (w : Wd) : M.ret a w = .ok a w := rfl
theorem fail_w (w : Wd) : (M.fail : M α) w = .bad := rfl
theorem if_w (p : Prop) [Decidable p] (a b : M α) (w : Wd) : (if p then a else b) w = if p then a w else b w := by split <;> rfl
end
section
variable {ρ : Env} {w : Wd}
def varK (s : Option Slot) (w : Wd) : R D := match s with
  | some (.val d) => .ok d w
  | some (.nest ds) => .ok (.lst ds) w
  | _ => .bad
theorem eVar_w (i : Nat) : eVar i ρ w = varK ρ[i]? w := by
  unfold eVar varK
  cases ρ[i]? with
  | none => rfl
  | some s => cases s <;> rfl
theorem varK_v (d : D) : varK (some (.val d)) w = .ok d w := rfl
theorem eC_w (d : D) : eC d ρ w = .ok d w := rfl
theorem eUn_w (f : D → M D) (a : EF) : eUn f a ρ w = bindK (a ρ w) f := rfl
theorem eBin_w (f : D → D → M D) (a b : EF) : eBin f a b ρ w = bindK (a ρ w) fun x => M.bind (b ρ) fun y => f x y := rfl
theorem evs0_w : evs [] ρ w = .ok [] w := rfl
theorem evs1_w (e : EF) (es : List EF) : evs (e :: es) ρ w = bindK (e ρ w) fun x => M.bind (evs es ρ) fun xs => M.ret (x :: xs) := rfl
theorem eTup_w (es : List EF) : eTup es ρ w = bindK (evs es ρ w) fun xs => M.ret (.tup xs) := rfl
theorem eLst_w (es : List EF) : eLst es ρ w = bindK (evs es ρ w) fun xs => M.ret (.lst xs) := rfl
theorem eCall_w (F : List D → M D) (es : List EF) : eCall F es ρ w = bindK (evs es ρ w) F := rfl
def ifE (r : R Bool) (a b : EF) (ρ : Env) : R D := match r with
  | .ok true w => a ρ w
  | .ok false w => b ρ w
  | .ex c ns xs w => .ex c ns xs w
  | .bad => .bad
theorem eIf_w (t : TF) (a b : EF) : eIf t a b ρ w = ifE (t ρ w) a b ρ := by
  show M.bind (t ρ) _ w = _
  rw [bind_w]
  cases t ρ w with
  | ok c w' => cases c <;> rfl
  | ex => rfl
  | bad => rfl
theorem ifE_t (a b : EF) : ifE (.ok true w) a b ρ = a ρ w := rfl
theorem ifE_f (a b : EF) : ifE (.ok false w) a b ρ = b ρ w := rfl
def andE (r : R D) (b : EF) (ρ : Env) : R D := match r with
  | .ok (.bl true) w => b ρ w
  | .ok (.bl false) w => .ok (.bl false) w
  | .ex c ns xs w => .ex c ns xs w
  | _ => .bad
theorem eAnd_w (a b : EF) : eAnd a b ρ w = andE (a ρ w) b ρ := by
  show M.bind (a ρ) _ w = _
  rw [bind_w]
  cases a ρ w with
  | ok d w' => cases d with
    | bl c => cases c <;> rfl
    | _ => rfl
  | ex => rfl
  | bad => rfl
theorem andE_t (b : EF) : andE (.ok (.bl true) w) b ρ = b ρ w := rfl
theorem andE_f (b : EF) : andE (.ok (.bl false) w) b ρ = .ok (.bl false) w := rfl
def orE (r : R D) (b : EF) (ρ : Env) : R D := match r with
  | .ok (.bl true) w => .ok (.bl true) w
  | .ok (.bl false) w => b ρ w
  | .ex c ns xs w => .ex c ns xs w
  | _ => .bad
theorem eOr_w (a b : EF) : eOr a b ρ w = orE (a ρ w) b ρ := by
  show M.bind (a ρ) _ w = _
  rw [bind_w]
  cases a ρ w with
  | ok d w' => cases d with
    | bl c => cases c <;> rfl
    | _ => rfl
  | ex => rfl
  | bad => rfl
theorem orE_t (b : EF) : orE (.ok (.bl true) w) b ρ = .ok (.bl true) w := rfl
theorem orE_f (b : EF) : orE (.ok (.bl false) w) b ρ = b ρ w := rfl
theorem eNot_w (t : TF) : eNot t ρ w = bindK (t ρ w) fun c => M.ret (.bl (!c)) := rfl
def chainK (r : R D) (g : D → D → M D) (y : D) (c : EF) (ρ : Env) : R D := match r with
  | .ok (.bl true) w => bindK (c ρ w) fun z => g y z
  | .ok (.bl false) w => .ok (.bl false) w
  | .ex c ns xs w => .ex c ns xs w
  | _ => .bad
def chainM (f g : D → D → M D) (c : EF) (ρ : Env) (x y : D) : M D := fun w => chainK (f x y w) g y c ρ
theorem chainM_w (f g : D → D → M D) (c : EF) (x y : D) : chainM f g c ρ x y w = chainK (f x y w) g y c ρ := rfl
theorem eChain_w (f g : D → D → M D) (a b c : EF) : eChain f g a b c ρ w = bindK (a ρ w) fun x => M.bind (b ρ) fun y => chainM f g c ρ x y := by
  show M.bind (a ρ) _ w = _
  rw [bind_w]
  congr 1
  funext x
  congr 1
  funext y w'
  rw [bind_w, chainM_w]
  cases f x y w' with
  | ok d w2 => cases d with
    | bl k => cases k <;> rfl
    | _ => rfl
  | ex => rfl
  | bad => rfl
theorem chainK_t (g : D → D → M D) (y : D) (c : EF) : chainK (.ok (.bl true) w) g y c ρ = bindK (c ρ w) fun z => g y z := rfl
theorem chainK_f (g : D → D → M D) (y : D) (c : EF) : chainK (.ok (.bl false) w) g y c ρ = .ok (.bl false) w := rfl
theorem eNew_w (f : Env → M (List D)) : eNew f ρ w = bindK (f ρ w) fun ys => M.ret (.lst ys) := rfl
def handK (r : R (List D)) : R D := match r with
  | .ok xs none => .ok .hand (some xs)
  | .ok _ (some _) => .bad
  | .ex c ns xs w => .ex c ns xs w
  | .bad => .bad
theorem eHand_w (es : List EF) : eHand es ρ w = handK (evs es ρ w) := by
  unfold eHand M.bind handK
  cases evs es ρ w with
  | ok xs w' => cases w' <;> rfl
  | ex => rfl
  | bad => rfl
theorem handK_ok (xs : List D) : handK (.ok xs none) = .ok .hand (some xs) := rfl
def xfK (s : Option Slot) (f : Str) (w : Wd) : R D := match s with
  | some (.exc _ ns xs) => (match fldOf f ns xs with | some d => .ok d w | none => .bad)
  | _ => .bad
theorem eXf_w (i : Nat) (f : Str) : eXf i f ρ w = xfK ρ[i]? f w := by
  unfold eXf xfK
  cases ρ[i]? with
  | none => rfl
  | some s => cases s with
    | exc c ns xs => simp only; cases fldOf f ns xs <;> rfl
    | _ => rfl
theorem tVal_w (e : EF) : tVal e ρ w = bindK (e ρ w) boolOf := rfl
theorem tTru_w (e : EF) : tTru e ρ w = bindK (e ρ w) truth := rfl
theorem tNot_w (t : TF) : tNot t ρ w = bindK (t ρ w) fun c => M.ret (!c) := rfl
theorem tYes_w : tYes ρ w = .ok true w := rfl
def andT (r : R Bool) (b : TF) (ρ : Env) : R Bool := match r with
  | .ok true w => b ρ w
  | .ok false w => .ok false w
  | .ex c ns xs w => .ex c ns xs w
  | .bad => .bad
def orT (r : R Bool) (b : TF) (ρ : Env) : R Bool := match r with
  | .ok true w => .ok true w
  | .ok false w => b ρ w
  | .ex c ns xs w => .ex c ns xs w
  | .bad => .bad
theorem tAnd_w (a b : TF) : tAnd a b ρ w = andT (a ρ w) b ρ := by
  show M.bind (a ρ) _ w = _
  rw [bind_w]
  cases a ρ w with
  | ok c w' => cases c <;> rfl
  | ex => rfl
  | bad => rfl
theorem tOr_w (a b : TF) : tOr a b ρ w = orT (a ρ w) b ρ := by
  show M.bind (a ρ) _ w = _
  rw [bind_w]
  cases a ρ w with
  | ok c w' => cases c <;> rfl
  | ex => rfl
  | bad => rfl
theorem andT_t (b : TF) : andT (.ok true w) b ρ = b ρ w := rfl
theorem andT_f (b : TF) : andT (.ok false w) b ρ = .ok false w := rfl
theorem orT_t (b : TF) : orT (.ok true w) b ρ = .ok true w := rfl
theorem orT_f (b : TF) : orT (.ok false w) b ρ = b ρ w := rfl
theorem boolOf_w (b : Bool) : boolOf (.bl b) w = .ok b w := rfl
theorem truth_bl (b : Bool) : truth (.bl b) w = .ok b w := rfl
theorem truth_int (i : Int) : truth (.int i) w = .ok (i != 0) w := rfl
theorem truth_non : truth .non w = .ok false w := rfl
theorem truth_lst (xs : List D) : truth (.lst xs) w = .ok (!xs.isEmpty) w := rfl
theorem truth_tup (xs : List D) : truth (.tup xs) w = .ok (!xs.isEmpty) w := rfl
theorem truth_frz (xs : List D) : truth (.frz xs) w = .ok (!xs.isEmpty) w := rfl
theorem add_int (i j : Int) : addD (.int i) (.int j) w = .ok (.int (i + j)) w := rfl
theorem sub_int (i j : Int) : subD (.int i) (.int j) w = .ok (.int (i - j)) w := rfl
theorem neg_int (i : Int) : negD (.int i) w = .ok (.int (-i)) w := rfl
theorem lt_int (i j : Int) : ltD (.int i) (.int j) w = .ok (.bl (decide (i < j))) w := rfl
theorem le_int (i j : Int) : leD (.int i) (.int j) w = .ok (.bl (decide (i ≤ j))) w := rfl
theorem gt_int (i j : Int) : gtD (.int i) (.int j) w = .ok (.bl (decide (j < i))) w := rfl
theorem ge_int (i j : Int) : geD (.int i) (.int j) w = .ok (.bl (decide (j ≤ i))) w := rfl
theorem isNon_w (a : D) : isNonD a .non w = .ok (.bl a.isNon) w := rfl
theorem notNon_w (a : D) : notNonD a .non w = .ok (.bl (!a.isNon)) w := rfl
theorem is_w (a b : Bool) : isD (.bl a) (.bl b) w = .ok (.bl (decide (a = b))) w := rfl
theorem isNot_w (a b : Bool) : isNotD (.bl a) (.bl b) w = .ok (.bl (!decide (a = b))) w := rfl
theorem int_w (i : Int) : intD (.int i) w = .ok (.int i) w := rfl
theorem abs_w (i : Int) : absD (.int i) w = .ok (.int (if i < 0 then -i else i)) w := rfl
theorem gcd_w (a b : Int) : gcdD (.int a) (.int b) w = .ok (.int ((Nat.gcd a.natAbs b.natAbs : Nat) : Int)) w := rfl
theorem tup_w (xs : List D) : tupD (.lst xs) w = .ok (.tup xs) w := rfl
theorem tupt_w (xs : List D) : tupD (.tup xs) w = .ok (.tup xs) w := rfl
theorem list_w (xs : List D) : listD (.tup xs) w = .ok (.lst xs) w := rfl
theorem listl_w (xs : List D) : listD (.lst xs) w = .ok (.lst xs) w := rfl
theorem len_lst (xs : List D) : lenD (.lst xs) w = .ok (.int xs.length) w := rfl
theorem len_tup (xs : List D) : lenD (.tup xs) w = .ok (.int xs.length) w := rfl
theorem len_frz (xs : List D) : lenD (.frz xs) w = .ok (.int xs.length) w := rfl
theorem un1_w (f : D → M D) (d : D) : un1 f [d] w = f d w := rfl
theorem bin2_w (f : D → D → M D) (d e : D) : bin2 f [d, e] w = f d e w := rfl
theorem mod_int {i j : Int} (h : j ≠ 0) : modD (.int i) (.int j) w = .ok (.int (i.fmod j)) w := by unfold modD; simp only [if_w, if_pos h]; rfl
def Sz (k : Nat) (i : Int) : Prop := i.natAbs < 2 ^ k
theorem Sz.log {k : Nat} {i : Int} (h : Sz k i) : i.natAbs.log2 ≤ k := by
  unfold Sz at h
  by_cases e : i.natAbs = 0
  · rw [e]; exact Nat.zero_le k
  · exact Nat.le_of_lt ((Nat.log2_lt e).mpr h)
theorem Sz.mono {k l : Nat} {i : Int} (h : Sz k i) (hl : k ≤ l) : Sz l i := Nat.lt_of_lt_of_le h (Nat.pow_le_pow_right (by decide) hl)
theorem Sz.mul {k l : Nat} {i j : Int} (h : Sz k i) (g : Sz l j) : Sz (k + l) (i * j) := by
  unfold Sz at *
  rw [Int.natAbs_mul, Nat.pow_add]
  exact Nat.mul_lt_mul'' h g
theorem Sz.add {k : Nat} {i j : Int} (h : Sz k i) (g : Sz k j) : Sz (k + 1) (i + j) := by
  unfold Sz at *
  have := Int.natAbs_add_le i j
  rw [Nat.pow_succ]; omega
theorem Sz.neg {k : Nat} {i : Int} (h : Sz k i) : Sz k (-i) := by unfold Sz at *; rwa [Int.natAbs_neg]
theorem Sz.sub {k : Nat} {i j : Int} (h : Sz k i) (g : Sz k j) : Sz (k + 1) (i - j) := by rw [Int.sub_eq_add_neg]; exact h.add g.neg
theorem mul_int {k l : Nat} {i j : Int} (h : Sz k i) (g : Sz l j) (hk : k + l < 1000000 := by decide) : mulD (.int i) (.int j) w = .ok (.int (i * j)) w := by
  have := h.log
  have := g.log
  unfold mulD; simp only [if_w]; rw [if_pos (by omega)]; rfl
theorem fdiv_int {k : Nat} {i j : Int} (h0 : j ≠ 0) (h : Sz k j) (hk : k < 9000 := by decide) : fdivD (.int i) (.int j) w = .ok (.int (i.fdiv j)) w := by
  have := h.log
  unfold fdivD; simp only [if_w]; rw [if_pos ⟨h0, by omega⟩]; rfl
theorem pow_int {i j : Int} (h0 : 0 ≤ j ∧ j ≤ 1000000 ∧ i.natAbs < 2 ^ 64) : powD (.int i) (.int j) w = .ok (.int (i ^ j.toNat)) w := by unfold powD; simp only [if_w, if_pos h0]; rfl
theorem eq_w {a b : D} (h : D.flat 60 a = true ∧ D.flat 60 b = true) : eqD a b w = .ok (.bl (D.eqv a b)) w := by unfold eqD; simp only [if_w, if_pos h]; rfl
theorem ne_w {a b : D} (h : D.flat 60 a = true ∧ D.flat 60 b = true) : neD a b w = .ok (.bl (!D.eqv a b)) w := by unfold neD; simp only [if_w, if_pos h]; rfl
theorem eq_int (i j : Int) : eqD (.int i) (.int j) w = .ok (.bl (i == j)) w := by rw [eq_w ⟨rfl, rfl⟩]; rfl
theorem ne_int (i j : Int) : neD (.int i) (.int j) w = .ok (.bl (!(i == j))) w := by rw [ne_w ⟨rfl, rfl⟩]; rfl
theorem eq_pair (a b c d : Int) : eqD (.tup [.int a, .int b]) (.tup [.int c, .int d]) w = .ok (.bl (a == c && b == d)) w := by rw [eq_w ⟨rfl, rfl⟩]; simp only [D.eqv, D.eqvL, Bool.and_true]
theorem ne_pair (a b c d : Int) : neD (.tup [.int a, .int b]) (.tup [.int c, .int d]) w = .ok (.bl (!(a == c && b == d))) w := by rw [ne_w ⟨rfl, rfl⟩]; simp only [D.eqv, D.eqvL, Bool.and_true]
def itK (o : Option D) (w : Wd) : R D := match o with
  | some d => .ok d w
  | none => .bad
theorem ix_lst (xs : List D) (i : Int) : ixD (.lst xs) (.int i) w = itK (itemAt xs i) w := by unfold ixD ixL itK; simp only; cases itemAt xs i <;> rfl
theorem ix_frz (xs : List D) (i : Int) : ixD (.frz xs) (.int i) w = itK (itemAt xs i) w := by unfold ixD ixL itK; simp only; cases itemAt xs i <;> rfl
theorem ix_tup (xs : List D) (i : Int) : ixD (.tup xs) (.int i) w = itK (itemAt xs i) w := by unfold ixD ixL itK; simp only; cases itemAt xs i <;> rfl
theorem ix_hand (xs : List D) (i : Int) : ixD .hand (.int i) (some xs) = itK (itemAt xs i) (some xs) := by unfold ixD ixL itK; simp only; cases itemAt xs i <;> rfl
theorem itK_v (d : D) : itK (some d) w = .ok d w := rfl
theorem item0 (x : D) (xs : List D) : itemAt (x :: xs) 0 = some x := by
  unfold itemAt ixP
  rw [if_pos ⟨by decide, by simp only [List.length_cons]; omega⟩]; rfl
theorem item1 (x y : D) (xs : List D) : itemAt (x :: y :: xs) 1 = some y := by
  unfold itemAt ixP
  rw [if_pos ⟨by decide, by simp only [List.length_cons]; omega⟩]; rfl
theorem item2 (x y z : D) (xs : List D) : itemAt (x :: y :: z :: xs) 2 = some z := by
  unfold itemAt ixP
  rw [if_pos ⟨by decide, by simp only [List.length_cons]; omega⟩]; rfl
theorem item3 (x y z u : D) (xs : List D) : itemAt (x :: y :: z :: u :: xs) 3 = some u := by
  unfold itemAt ixP
  rw [if_pos ⟨by decide, by simp only [List.length_cons]; omega⟩]; rfl
theorem item_nat {xs : List D} {i : Int} {d : D} (h0 : 0 ≤ i) (e : xs[i.toNat]? = some d) : itemAt xs i = some d := by
  have hl : i.toNat < xs.length := (List.getElem?_eq_some_iff.mp e).1
  unfold itemAt ixP
  rw [if_pos ⟨h0, by omega⟩]; exact e
theorem isi_w {ts : List Ty} {d : D} {n : String} (h : d.tyNm = some n) (ht : ts.all Ty.ok = true) : isiB ts d w = .ok (.bl (ts.any fun t => isT t d)) w := by
  unfold isiB
  rw [h]
  simp only [if_pos ht]
  rfl
theorem isi_int_i (i : Int) : isiB [.int] (.int i) w = .ok (.bl true) w := by rw [isi_w (n := "int") rfl rfl]; rfl
theorem isi_int_b (i : Bool) : isiB [.int] (.bl i) w = .ok (.bl true) w := by rw [isi_w (n := "bool") rfl rfl]; rfl
theorem isi_int_n  : isiB [.int] .non w = .ok (.bl false) w := by rw [isi_w (n := "NoneType") rfl rfl]; rfl
theorem isi_int_s (i : Str) : isiB [.int] (.str i) w = .ok (.bl false) w := by rw [isi_w (n := "str") rfl rfl]; rfl
theorem isi_int_t (i : List D) : isiB [.int] (.tup i) w = .ok (.bl false) w := by rw [isi_w (n := "tuple") rfl rfl]; rfl
theorem isi_int_l (i : List D) : isiB [.int] (.lst i) w = .ok (.bl false) w := by rw [isi_w (n := "list") rfl rfl]; rfl
theorem isi_int_f (i : List D) : isiB [.int] (.frz i) w = .ok (.bl false) w := by rw [isi_w (n := "list") rfl rfl]; rfl
theorem isi_int_h  : isiB [.int] .hand w = .ok (.bl false) w := by rw [isi_w (n := "list") rfl rfl]; rfl
theorem isi_bool_i (i : Int) : isiB [.bool] (.int i) w = .ok (.bl false) w := by rw [isi_w (n := "int") rfl rfl]; rfl
theorem isi_bool_b (i : Bool) : isiB [.bool] (.bl i) w = .ok (.bl true) w := by rw [isi_w (n := "bool") rfl rfl]; rfl
theorem isi_bool_n  : isiB [.bool] .non w = .ok (.bl false) w := by rw [isi_w (n := "NoneType") rfl rfl]; rfl
theorem isi_bool_s (i : Str) : isiB [.bool] (.str i) w = .ok (.bl false) w := by rw [isi_w (n := "str") rfl rfl]; rfl
theorem isi_bool_t (i : List D) : isiB [.bool] (.tup i) w = .ok (.bl false) w := by rw [isi_w (n := "tuple") rfl rfl]; rfl
theorem isi_bool_l (i : List D) : isiB [.bool] (.lst i) w = .ok (.bl false) w := by rw [isi_w (n := "list") rfl rfl]; rfl
theorem isi_bool_f (i : List D) : isiB [.bool] (.frz i) w = .ok (.bl false) w := by rw [isi_w (n := "list") rfl rfl]; rfl
theorem isi_bool_h  : isiB [.bool] .hand w = .ok (.bl false) w := by rw [isi_w (n := "list") rfl rfl]; rfl
theorem isi_str_i (i : Int) : isiB [.str] (.int i) w = .ok (.bl false) w := by rw [isi_w (n := "int") rfl rfl]; rfl
theorem isi_str_b (i : Bool) : isiB [.str] (.bl i) w = .ok (.bl false) w := by rw [isi_w (n := "bool") rfl rfl]; rfl
theorem isi_str_n  : isiB [.str] .non w = .ok (.bl false) w := by rw [isi_w (n := "NoneType") rfl rfl]; rfl
theorem isi_str_s (i : Str) : isiB [.str] (.str i) w = .ok (.bl true) w := by rw [isi_w (n := "str") rfl rfl]; rfl
theorem isi_str_t (i : List D) : isiB [.str] (.tup i) w = .ok (.bl false) w := by rw [isi_w (n := "tuple") rfl rfl]; rfl
theorem isi_str_l (i : List D) : isiB [.str] (.lst i) w = .ok (.bl false) w := by rw [isi_w (n := "list") rfl rfl]; rfl
theorem isi_str_f (i : List D) : isiB [.str] (.frz i) w = .ok (.bl false) w := by rw [isi_w (n := "list") rfl rfl]; rfl
theorem isi_str_h  : isiB [.str] .hand w = .ok (.bl false) w := by rw [isi_w (n := "list") rfl rfl]; rfl
theorem isi_tuple_i (i : Int) : isiB [.tuple] (.int i) w = .ok (.bl false) w := by rw [isi_w (n := "int") rfl rfl]; rfl
theorem isi_tuple_b (i : Bool) : isiB [.tuple] (.bl i) w = .ok (.bl false) w := by rw [isi_w (n := "bool") rfl rfl]; rfl
theorem isi_tuple_n  : isiB [.tuple] .non w = .ok (.bl false) w := by rw [isi_w (n := "NoneType") rfl rfl]; rfl
theorem isi_tuple_s (i : Str) : isiB [.tuple] (.str i) w = .ok (.bl false) w := by rw [isi_w (n := "str") rfl rfl]; rfl
theorem isi_tuple_t (i : List D) : isiB [.tuple] (.tup i) w = .ok (.bl true) w := by rw [isi_w (n := "tuple") rfl rfl]; rfl
theorem isi_tuple_l (i : List D) : isiB [.tuple] (.lst i) w = .ok (.bl false) w := by rw [isi_w (n := "list") rfl rfl]; rfl
theorem isi_tuple_f (i : List D) : isiB [.tuple] (.frz i) w = .ok (.bl false) w := by rw [isi_w (n := "list") rfl rfl]; rfl
theorem isi_tuple_h  : isiB [.tuple] .hand w = .ok (.bl false) w := by rw [isi_w (n := "list") rfl rfl]; rfl
theorem isi_list_i (i : Int) : isiB [.list] (.int i) w = .ok (.bl false) w := by rw [isi_w (n := "int") rfl rfl]; rfl
theorem isi_list_b (i : Bool) : isiB [.list] (.bl i) w = .ok (.bl false) w := by rw [isi_w (n := "bool") rfl rfl]; rfl
theorem isi_list_n  : isiB [.list] .non w = .ok (.bl false) w := by rw [isi_w (n := "NoneType") rfl rfl]; rfl
theorem isi_list_s (i : Str) : isiB [.list] (.str i) w = .ok (.bl false) w := by rw [isi_w (n := "str") rfl rfl]; rfl
theorem isi_list_t (i : List D) : isiB [.list] (.tup i) w = .ok (.bl false) w := by rw [isi_w (n := "tuple") rfl rfl]; rfl
theorem isi_list_l (i : List D) : isiB [.list] (.lst i) w = .ok (.bl true) w := by rw [isi_w (n := "list") rfl rfl]; rfl
theorem isi_list_f (i : List D) : isiB [.list] (.frz i) w = .ok (.bl true) w := by rw [isi_w (n := "list") rfl rfl]; rfl
theorem isi_list_h  : isiB [.list] .hand w = .ok (.bl true) w := by rw [isi_w (n := "list") rfl rfl]; rfl
theorem isi_dict_i (i : Int) : isiB [.dict] (.int i) w = .ok (.bl false) w := by rw [isi_w (n := "int") rfl rfl]; rfl
theorem isi_dict_b (i : Bool) : isiB [.dict] (.bl i) w = .ok (.bl false) w := by rw [isi_w (n := "bool") rfl rfl]; rfl
theorem isi_dict_n  : isiB [.dict] .non w = .ok (.bl false) w := by rw [isi_w (n := "NoneType") rfl rfl]; rfl
theorem isi_dict_s (i : Str) : isiB [.dict] (.str i) w = .ok (.bl false) w := by rw [isi_w (n := "str") rfl rfl]; rfl
theorem isi_dict_t (i : List D) : isiB [.dict] (.tup i) w = .ok (.bl false) w := by rw [isi_w (n := "tuple") rfl rfl]; rfl
theorem isi_dict_l (i : List D) : isiB [.dict] (.lst i) w = .ok (.bl false) w := by rw [isi_w (n := "list") rfl rfl]; rfl
theorem isi_dict_f (i : List D) : isiB [.dict] (.frz i) w = .ok (.bl false) w := by rw [isi_w (n := "list") rfl rfl]; rfl
theorem isi_dict_h  : isiB [.dict] .hand w = .ok (.bl false) w := by rw [isi_w (n := "list") rfl rfl]; rfl
def lcM (xs : List D) (g : GF) (t : TF) (e : EF) (ρ : Env) (is : List Nat) (w : Wd) : R (List D) := if xs.length ≤ line then lcL g t e (wipeE ρ is) xs w else .bad
def lcB (r : R (List D)) (g : GF) (t : TF) (e : EF) (ρ : Env) (is : List Nat) : R (List D) := match r with
  | .ok xs w => lcM xs g t e ρ is w
  | .ex c ns xs w => .ex c ns xs w
  | .bad => .bad
theorem nLc_w (src : IF) (is : List Nat) (g : GF) (t : TF) (e : EF) : nLc src is g t e ρ w = lcB (src ρ w) g t e ρ is := by
  show M.bind (src ρ) _ w = _
  rw [bind_w]
  unfold lcB
  cases src ρ w with
  | ok xs w' => simp only [bindK_ok, lcM, if_w, fail_w]
  | ex => rfl
  | bad => rfl
theorem lcB_ok (xs : List D) (g : GF) (t : TF) (e : EF) (is : List Nat) : lcB (.ok xs w) g t e ρ is = lcM xs g t e ρ is w := rfl
theorem lcM_v {xs : List D} (g : GF) (t : TF) (e : EF) (is : List Nat) (h : xs.length ≤ line) : lcM xs g t e ρ is w = lcL g t e (wipeE ρ is) xs w := if_pos h
def lcE (r : R D) (g : GF) (t : TF) (e : EF) (ρ : Env) (xs : List D) : R (List D) := match r with
  | .ok y w => bindK (lcL g t e ρ xs w) fun ys => M.ret (y :: ys)
  | _ => .bad
def lcT (r : R Bool) (ρ1 : Env) (g : GF) (t : TF) (e : EF) (ρ : Env) (xs : List D) : R (List D) := match r with
  | .ok true w => lcE (e ρ1 w) g t e ρ xs
  | .ok false w => lcL g t e ρ xs w
  | _ => .bad
theorem lc0 (g : GF) (t : TF) (e : EF) : lcL g t e ρ [] w = .ok [] w := rfl
theorem lcG {g : GF} (t : TF) (e : EF) {x : D} (xs : List D) {ρ1 : Env} (h : g x ρ = some ρ1) : lcL g t e ρ (x :: xs) w = lcT (t ρ1 w) ρ1 g t e ρ xs := by
  rw [lcL_cons h, bind_w]
  unfold lcT
  cases et : t ρ1 w with
  | ok c w' =>
    rw [noEx_ap et, bindK_ok]
    cases c with
    | true =>
      simp only [if_true]
      rw [bind_w]
      unfold lcE
      cases ee : e ρ1 w' with
      | ok y w2 => rw [noEx_ap ee, bindK_ok, bind_w]
      | ex => rw [noEx_bad (by rw [ee]; intro _ _ z; cases z)]; rfl
      | bad => rw [noEx_bad (by rw [ee]; intro _ _ z; cases z)]; rfl
    | false => simp only [Bool.false_eq_true, if_false]
  | ex => rw [noEx_bad (by rw [et]; intro _ _ z; cases z)]; rfl
  | bad => rw [noEx_bad (by rw [et]; intro _ _ z; cases z)]; rfl
theorem lcN (i : Nat) (t : TF) (e : EF) (x : D) (xs : List D) : lcL (gN i) t e ρ (x :: xs) w = lcT (t (ρ.set i (.val x)) w) (ρ.set i (.val x)) (gN i) t e ρ xs := lcG t e xs rfl
theorem lcT_t (ρ1 : Env) (g : GF) (t : TF) (e : EF) (xs : List D) : lcT (.ok true w) ρ1 g t e ρ xs = lcE (e ρ1 w) g t e ρ xs := rfl
theorem lcT_f (ρ1 : Env) (g : GF) (t : TF) (e : EF) (xs : List D) : lcT (.ok false w) ρ1 g t e ρ xs = lcL g t e ρ xs w := rfl
theorem lcE_v (y : D) (g : GF) (t : TF) (e : EF) (xs : List D) : lcE (.ok y w) g t e ρ xs = bindK (lcL g t e ρ xs w) fun ys => M.ret (y :: ys) := rfl
theorem wipeE0 : wipeE ρ [] = ρ := rfl
theorem wipeE1 (i : Nat) (is : List Nat) : wipeE ρ (i :: is) = (wipeE ρ is).set i .none := rfl
theorem add_lst {a b : List D} (h : a.length + b.length ≤ line) : addD (.lst a) (.lst b) w = .ok (.lst (a ++ b)) w := by unfold addD; simp only [if_w, if_pos h]; rfl
def okS (x : Str) : Prop := x.cps.all (· < 0x110000) = true
theorem okS_of (s : String) : okS (Str.ofString s) := by
  unfold okS
  rw [Str.ofString_eq_toList]
  simp only [List.all_toArray, List.all_map, List.all_eq_true, Function.comp, decide_eq_true_eq]
  intro c _
  have := c.valid
  unfold UInt32.isValidChar Nat.isValidChar at this
  show c.val.toNat < 0x110000
  omega
def jsK (es : List EF) (acc : Str) (ρ : Env) : D → M Str := fun x => match x with
  | .str y => if (acc ++ y).length ≤ line then jsM es (acc ++ y) ρ else M.fail
  | _ => M.fail
theorem eJs_w (es : List EF) : eJs es ρ w = bindK (jsM es Str.empty ρ w) fun s => M.ret (.str s) := rfl
theorem js0 (acc : Str) : jsM [] acc ρ w = .ok acc w := rfl
theorem js1 (e : EF) (es : List EF) (acc : Str) : jsM (e :: es) acc ρ w = bindK (e ρ w) (jsK es acc ρ) := rfl
def seqK (r : SR) (t : SF) : SR := match r with
  | .nx ρ w => t ρ w
  | r => r
theorem sSeq_w (s t : SF) : sSeq s t ρ w = seqK (s ρ w) t := by unfold sSeq seqK; cases s ρ w <;> rfl
theorem seqK_nx (t : SF) : seqK (.nx ρ w) t = t ρ w := rfl
theorem seqK_rt (d : D) (t : SF) : seqK (.rt d w) t = .rt d w := rfl
theorem seqK_bk (t : SF) : seqK (.bk ρ w) t = .bk ρ w := rfl
theorem seqK_ct (t : SF) : seqK (.ct ρ w) t = .ct ρ w := rfl
theorem seqK_ex (c : Nat) (ns : List Str) (xs : List D) (t : SF) : seqK (.ex c ns xs ρ w) t = .ex c ns xs ρ w := rfl
def onK {α : Type} (r : R α) (ρ : Env) (k : α → Wd → SR) : SR := match r with
  | .ok a w' => k a w'
  | .ex c ns xs w' => .ex c ns xs ρ w'
  | .bad => .bad
theorem onK_ok {α : Type} (a : α) (k : α → Wd → SR) : onK (.ok a w) ρ k = k a w := rfl
theorem onK_ex {α : Type} (c : Nat) (ns : List Str) (xs : List D) (k : α → Wd → SR) : onK (.ex c ns xs w) ρ k = .ex c ns xs ρ w := rfl
theorem sNext_w : sNext ρ w = .nx ρ w := rfl
theorem sSet_w (i : Nat) (e : EF) : sSet i e ρ w = onK (e ρ w) ρ fun d w' => .nx (ρ.set i (.val d)) w' := rfl
theorem sOwn_w (i : Nat) (f : Env → M (List D)) : sOwn i f ρ w = onK (f ρ w) ρ fun d w' => .nx (ρ.set i (.own d)) w' := rfl
def frzK (i : Nat) (s : Option Slot) (ρ : Env) (w : Wd) : SR := match s with
  | some (.own xs) => .nx (ρ.set i (.val (.lst xs))) w
  | _ => .bad
theorem sFrz_w (i : Nat) : sFrz i ρ w = frzK i ρ[i]? ρ w := by unfold sFrz frzK; cases ρ[i]? with
  | none => rfl
  | some s => cases s <;> rfl
theorem frzK_v (i : Nat) (xs : List D) : frzK i (some (.own xs)) ρ w = .nx (ρ.set i (.val (.lst xs))) w := rfl
def appK (i : Nat) (s : Option Slot) (r : R D) (ρ : Env) : SR := match s with
  | some (.own xs) => onK r ρ fun d w' => if xs.length < line then .nx (ρ.set i (.own (xs ++ [d]))) w' else .bad
  | _ => .bad
theorem sApp_w (i : Nat) (e : EF) : sApp i e ρ w = appK i ρ[i]? (e ρ w) ρ := by unfold sApp appK; cases ρ[i]? with
  | none => rfl
  | some s => cases s <;> rfl
theorem appK_v (i : Nat) {xs : List D} (d : D) (h : xs.length < line) : appK i (some (.own xs)) (.ok d w) ρ = .nx (ρ.set i (.own (xs ++ [d]))) w := by unfold appK; simp only [onK_ok, if_pos h]
theorem sExpr_w (e : EF) : sExpr e ρ w = onK (e ρ w) ρ fun _ w' => .nx ρ w' := rfl
theorem sRet_w (e : EF) : sRet e ρ w = onK (e ρ w) ρ fun d w' => .rt d w' := rfl
theorem sRetN_w : sRetN ρ w = .rt .non w := rfl
def ifK (r : R Bool) (a b : SF) (ρ : Env) : SR := match r with
  | .ok true w => a ρ w
  | .ok false w => b ρ w
  | .ex c ns xs w => .ex c ns xs ρ w
  | .bad => .bad
theorem sIf_w (t : TF) (a b : SF) : sIf t a b ρ w = ifK (t ρ w) a b ρ := by
  unfold sIf onE ifK
  cases t ρ w with
  | ok c w' => cases c <;> rfl
  | ex => rfl
  | bad => rfl
theorem ifK_t (a b : SF) : ifK (.ok true w) a b ρ = a ρ w := rfl
theorem ifK_f (a b : SF) : ifK (.ok false w) a b ρ = b ρ w := rfl
theorem sBrk_w : sBrk ρ w = .bk ρ w := rfl
theorem sCnt_w : sCnt ρ w = .ct ρ w := rfl
def parK (i j : Nat) (ρ : Env) (xs : List D) (w : Wd) : SR := match xs with
  | [x, y] => .nx ((ρ.set i (.val x)).set j (.val y)) w
  | _ => .bad
theorem sPar_w (i j : Nat) (a b : EF) : sPar i j a b ρ w = onK (evs [a, b] ρ w) ρ (parK i j ρ) := rfl
theorem parK_v (i j : Nat) (x y : D) : parK i j ρ [x, y] w = .nx ((ρ.set i (.val x)).set j (.val y)) w := rfl
def unpK (is : List Nat) (ρ : Env) (d : D) (w : Wd) : SR := match gT is d ρ with
  | some ρ' => .nx ρ' w
  | none => .bad
theorem sUnp_w (is : List Nat) (e : EF) : sUnp is e ρ w = onK (e ρ w) ρ (unpK is ρ) := rfl
theorem unpK_2 (i j : Nat) (x y : D) : unpK [i, j] ρ (.tup [x, y]) w = .nx ((ρ.set i (.val x)).set j (.val y)) w := rfl
theorem unpK_3 (i j k : Nat) (x y z : D) : unpK [i, j, k] ρ (.tup [x, y, z]) w = .nx (((ρ.set i (.val x)).set j (.val y)).set k (.val z)) w := rfl
theorem unpK_4 (i j k l : Nat) (x y z u : D) : unpK [i, j, k, l] ρ (.tup [x, y, z, u]) w = .nx ((((ρ.set i (.val x)).set j (.val y)).set k (.val z)).set l (.val u)) w := rfl
theorem sHSet_w (h k e : EF) : sHSet h k e ρ w = onK (bindK (e ρ w) fun d => M.bind (h ρ) fun o => M.bind (k ρ) fun j => M.ret [d, o, j]) ρ (hsK ρ) := rfl
theorem hsK_v (d : D) {i : Int} {hs : List D} {j : Nat} (e : ixP hs.length i = some j) : hsK ρ [d, .hand, .int i] (some hs) = .nx ρ (some (hs.set j d)) := by unfold hsK; simp only [e]
theorem hsK_0 (d x : D) (hs : List D) : hsK ρ [d, .hand, .int 0] (some (x :: hs)) = .nx ρ (some (d :: hs)) := by
  rw [hsK_v (j := 0)]; rfl
  unfold ixP; rw [if_pos ⟨by decide, by simp only [List.length_cons]; omega⟩]; rfl
theorem hsK_1 (d x y : D) (hs : List D) : hsK ρ [d, .hand, .int 1] (some (x :: y :: hs)) = .nx ρ (some (x :: d :: hs)) := by
  rw [hsK_v (j := 1)]; rfl
  unfold ixP; rw [if_pos ⟨by decide, by simp only [List.length_cons]; omega⟩]; rfl
theorem hsK_2 (d x y z : D) (hs : List D) : hsK ρ [d, .hand, .int 2] (some (x :: y :: z :: hs)) = .nx ρ (some (x :: y :: d :: hs)) := by
  rw [hsK_v (j := 2)]; rfl
  unfold ixP; rw [if_pos ⟨by decide, by simp only [List.length_cons]; omega⟩]; rfl
theorem hsK_3 (d x y z u : D) (hs : List D) : hsK ρ [d, .hand, .int 3] (some (x :: y :: z :: u :: hs)) = .nx ρ (some (x :: y :: z :: d :: hs)) := by
  rw [hsK_v (j := 3)]; rfl
  unfold ixP; rw [if_pos ⟨by decide, by simp only [List.length_cons]; omega⟩]; rfl
theorem sRaise_w (c : Nat) (ns : List Str) (es : List EF) : sRaise c ns es ρ w = onK (evs es ρ w) ρ fun xs w' => .ex c ns xs ρ w' := rfl
theorem sFor_w (src : IF) (g : GF) (b : SF) : sFor src g b ρ w = onK (src ρ w) ρ fun xs w' => forL g b xs ρ w' := rfl
theorem iSeq_w (e : EF) : iSeq e ρ w = bindK (e ρ w) seqOf := rfl
theorem seqOf_lst (xs : List D) : seqOf (.lst xs) w = .ok xs w := rfl
theorem seqOf_tup (xs : List D) : seqOf (.tup xs) w = .ok xs w := rfl
theorem seqOf_frz (xs : List D) : seqOf (.frz xs) w = .ok xs w := rfl
theorem iRng_w (lo hi : EF) : iRng lo hi ρ w = bindK (lo ρ w) fun x => M.bind (hi ρ) fun y => rangeM x y := rfl
theorem range_w {i j : Int} (h : -(2 ^ 61) ≤ i ∧ i < 2 ^ 61 ∧ -(2 ^ 61) ≤ j ∧ j < 2 ^ 61) : rangeM (.int i) (.int j) w = .ok (rangeL i j) w := by
  have hb : (near i && near j) = true := by rw [of_near ⟨h.1, h.2.1⟩, of_near ⟨h.2.2.1, h.2.2.2⟩]; rfl
  unfold rangeM
  simp only [if_pos hb]
  rfl
theorem loopK_nx (k : Env → Wd → SR) : loopK (.nx ρ w) k = k ρ w := rfl
theorem loopK_ct (k : Env → Wd → SR) : loopK (.ct ρ w) k = k ρ w := rfl
theorem loopK_bk (k : Env → Wd → SR) : loopK (.bk ρ w) k = .nx ρ w := rfl
theorem loopK_rt (d : D) (k : Env → Wd → SR) : loopK (.rt d w) k = .rt d w := rfl
theorem for0 (g : GF) (b : SF) : forL g b [] ρ w = .nx ρ w := rfl
def loopF (r : SR) (g : GF) (b : SF) (xs : List D) : SR := loopK r fun ρ' w' => forL g b xs ρ' w'
theorem forN (i : Nat) (b : SF) (x : D) (xs : List D) : forL (gN i) b (x :: xs) ρ w = loopF (b (ρ.set i (.val x)) w) (gN i) b xs := rfl
theorem loopF_nx (g : GF) (b : SF) (xs : List D) : loopF (.nx ρ w) g b xs = forL g b xs ρ w := rfl
theorem loopF_ct (g : GF) (b : SF) (xs : List D) : loopF (.ct ρ w) g b xs = forL g b xs ρ w := rfl
theorem loopF_bk (g : GF) (b : SF) (xs : List D) : loopF (.bk ρ w) g b xs = .nx ρ w := rfl
theorem loopF_rt (d : D) (g : GF) (b : SF) (xs : List D) : loopF (.rt d w) g b xs = .rt d w := rfl
theorem loopF_ex (c : Nat) (ns : List Str) (ds : List D) (g : GF) (b : SF) (xs : List D) : loopF (.ex c ns ds ρ w) g b xs = .ex c ns ds ρ w := rfl
theorem sWhile_w (fuel : Env → Wd → Nat) (t : TF) (b : SF) : sWhile fuel t b ρ w = whileL t b (fuel ρ w) ρ w := rfl
def tryK (r : SR) (cs ks : List Nat) (i : Nat) (suite : SF) : SR := match r with
  | .ex c ns xs ρ' w' => if c ∈ cs then suiteK i (suite (ρ'.set i (.exc c ns xs)) w') else if c ∈ ks then .ex c ns xs ρ' w' else .bad
  | r => r
theorem sTry_w (body : SF) (cs ks : List Nat) (i : Nat) (suite : SF) : sTry body cs ks i suite ρ w = tryK (body ρ w) cs ks i suite := by unfold sTry tryK; cases body ρ w <;> rfl
theorem tryK_nx (cs ks : List Nat) (i : Nat) (s : SF) : tryK (.nx ρ w) cs ks i s = .nx ρ w := rfl
theorem tryK_rt (d : D) (cs ks : List Nat) (i : Nat) (s : SF) : tryK (.rt d w) cs ks i s = .rt d w := rfl
theorem suiteK_nx (i : Nat) : suiteK i (.nx ρ w) = .nx (wipeX (ρ.set i .none)) w := rfl
theorem suiteK_rt (i : Nat) (d : D) : suiteK i (.rt d w) = .rt d w := rfl
theorem wipe0 : wipeX [] = [] := rfl
theorem wipe_v (d : D) (ρ : Env) : wipeX (.val d :: ρ) = .val d :: wipeX ρ := rfl
theorem wipe_n (ρ : Env) : wipeX (.none :: ρ) = .none :: wipeX ρ := rfl
theorem wipe_o (xs : List D) (ρ : Env) : wipeX (.own xs :: ρ) = .own xs :: wipeX ρ := rfl
def callK (r : SR) : R D := match r with
  | .nx _ w' => .ok .non w'
  | .rt d w' => .ok d w'
  | .ex c ns xs _ w' => .ex c ns xs w'
  | _ => .bad
theorem call_w (n : Nat) (b : SF) (ds : List D) : callF n b ds w = callK (b (vals ds ++ List.replicate (n - ds.length) .none) w) := by unfold callF callK; cases b (vals ds ++ List.replicate (n - ds.length) .none) w <;> rfl
theorem callK_nx : callK (.nx ρ w) = .ok .non w := rfl
theorem callK_rt (d : D) : callK (.rt d w) = .ok d w := rfl
theorem callK_ex (c : Nat) (ns : List Str) (xs : List D) : callK (.ex c ns xs ρ w) = .ex c ns xs w := rfl
theorem vals0 : vals [] = [] := rfl
theorem vals1 (d : D) (ds : List D) : vals (d :: ds) = .val d :: vals ds := rfl
end
end FL
namespace FL
open PySem
def lowA (a b : Int) : Int := if b < 0 then (-a).fdiv (Nat.gcd a.natAbs b.natAbs : Nat) else a.fdiv (Nat.gcd a.natAbs b.natAbs : Nat)
def lowB (a b : Int) : Int := if b < 0 then (-b).fdiv (Nat.gcd a.natAbs b.natAbs : Nat) else b.fdiv (Nat.gcd a.natAbs b.natAbs : Nat)
theorem gcd_ne {a b : Int} (h : b ≠ 0) : ((Nat.gcd a.natAbs b.natAbs : Nat) : Int) ≠ 0 := by
  have : Nat.gcd a.natAbs b.natAbs ≠ 0 := fun z => by
    have := (Nat.gcd_eq_zero_iff.mp z).2
    omega
  omega
theorem gcd_sz {k : Nat} {a b : Int} (h : b ≠ 0) (hb : Sz k b) : Sz k (Nat.gcd a.natAbs b.natAbs : Nat) := by
  have := Nat.le_of_dvd (by omega : 0 < b.natAbs) (Nat.gcd_dvd_right a.natAbs b.natAbs)
  unfold Sz at *
  simp only [Int.natAbs_natCast]
  omega
theorem low_q {a b : Int} (h : b ≠ 0) : lowA a b = (Rat.divInt a b).num ∧ lowB a b = ((Rat.divInt a b).den : Int) := by
  have g0 : (0 : Int) ≤ (Nat.gcd a.natAbs b.natAbs : Nat) := by omega
  have ec : b.gcd a = Nat.gcd a.natAbs b.natAbs := by unfold Int.gcd; exact Nat.gcd_comm _ _
  rw [Rat.num_divInt, Rat.den_divInt, if_neg h, ec]
  unfold lowA lowB
  by_cases l : b < 0
  · rw [if_pos l, if_pos l, Int.sign_eq_neg_one_of_neg l, Int.fdiv_eq_ediv_of_nonneg _ g0, Int.fdiv_eq_ediv_of_nonneg _ g0]
    refine ⟨by rw [Int.neg_one_mul], ?_⟩
    rw [Int.natCast_ediv, show ((b.natAbs : Nat) : Int) = -b by omega]
  · rw [if_neg l, if_neg l, Int.sign_eq_one_of_pos (by omega), Int.fdiv_eq_ediv_of_nonneg _ g0, Int.fdiv_eq_ediv_of_nonneg _ g0]
    refine ⟨by rw [Int.one_mul], ?_⟩
    rw [Int.natCast_ediv, show ((b.natAbs : Nat) : Int) = b by omega]
def SzQ (k : Nat) (q : Rat) : Prop := Sz k q.num ∧ Sz k (q.den : Int)
theorem SzQ.mono {k l : Nat} {q : Rat} (h : SzQ k q) (hl : k ≤ l) : SzQ l q := ⟨h.1.mono hl, h.2.mono hl⟩
theorem den0 (q : Rat) : (q.den : Int) ≠ 0 := by have := q.den_nz; omega
theorem szq_div {k : Nat} {a b : Int} (h : b ≠ 0) (ha : Sz k a) (hb : Sz k b) : SzQ k (Rat.divInt a b) := by
  unfold SzQ Sz at *
  rw [Rat.num_divInt, Rat.den_divInt, if_neg h]
  refine ⟨Nat.lt_of_le_of_lt ?_ ha, ?_⟩
  · rw [Int.natAbs_ediv_of_dvd (Int.dvd_trans (Int.gcd_dvd_right ..) (Int.dvd_mul_left ..)), Int.natAbs_mul, Int.natAbs_sign_of_ne_zero h, Nat.one_mul]
    exact Nat.div_le_self _ _
  · rw [Int.natAbs_natCast]
    exact Nat.lt_of_le_of_lt (Nat.div_le_self _ _) hb
theorem add_q (x y : Rat) : Rat.divInt (x.num * y.den + y.num * x.den) (x.den * y.den) = x + y := by
  rw [Rat.add_def', ← Int.natCast_mul, Rat.divInt_ofNat]
theorem mul_q (x y : Rat) : Rat.divInt (x.num * y.num) (x.den * y.den) = x * y := by
  rw [Rat.mul_def', ← Int.natCast_mul, Rat.divInt_ofNat]
theorem neg_q (x : Rat) : (-x).den = x.den := rfl
theorem sub_q (x y : Rat) : Rat.divInt (x.num * y.den - y.num * x.den) (x.den * y.den) = x - y := by
  rw [Rat.sub_eq_add_neg, ← add_q, Rat.neg_num, neg_q, Int.neg_mul, Int.sub_eq_add_neg]
theorem den_mul0 (x y : Rat) : (x.den : Int) * y.den ≠ 0 := Int.mul_ne_zero (den0 x) (den0 y)
theorem SzQ.add {k l : Nat} {x y : Rat} (h : SzQ k x) (g : SzQ l y) : SzQ (k + l + 1) (x + y) := by
  rw [← add_q]
  refine szq_div (den_mul0 x y) ?_ ((h.2.mul g.2).mono (by omega))
  have a := h.1.mul g.2
  have b := (g.1.mul h.2).mono (show l + k ≤ k + l by omega)
  exact a.add b
theorem SzQ.mul {k l : Nat} {x y : Rat} (h : SzQ k x) (g : SzQ l y) : SzQ (k + l) (x * y) := by
  rw [← mul_q]
  exact szq_div (den_mul0 x y) (h.1.mul g.1) (h.2.mul g.2)
theorem SzQ.neg {k : Nat} {x : Rat} (h : SzQ k x) : SzQ k (-x) := ⟨by rw [Rat.neg_num]; exact h.1.neg, h.2⟩
theorem SzQ.sub {k l : Nat} {x y : Rat} (h : SzQ k x) (g : SzQ l y) : SzQ (k + l + 1) (x - y) := by
  rw [Rat.sub_eq_add_neg]; exact h.add g.neg
def Sm (q : Rat) : Prop := -1000000000000 ≤ q.num ∧ q.num ≤ 1000000000000 ∧ (q.den : Int) ≤ 1000000000000
theorem Sm.sz {q : Rat} (h : Sm q) : SzQ 40 q := by
  unfold Sm at h
  unfold SzQ Sz
  have : (2 ^ 40 : Nat) = 1099511627776 := by decide
  omega
abbrev rq (q : Rat) : D := .tup [.int q.num, .int (q.den : Int)]
theorem rq_low {a b : Int} (h : b ≠ 0) : D.tup [.int (lowA a b), .int (lowB a b)] = rq (Rat.divInt a b) := by rw [(low_q h).1, (low_q h).2]
mutual
theorem eqv_refl : ∀ (n : Nat) (d : D), D.flat n d = true → D.eqv d d = true
  | n, .non, _ => by simp [D.eqv]
  | n, .bl b, _ => by simp [D.eqv]
  | n, .int i, _ => by simp [D.eqv]
  | n, .str x, _ => by simp [D.eqv]
  | n + 1, .lst xs, f => by
    simp only [D.flat] at f
    simp only [D.eqv]
    exact eqv_reflL n xs f
  | n + 1, .tup xs, f => by
    simp only [D.flat] at f
    simp only [D.eqv]
    exact eqv_reflL n xs f
  | 0, .tup xs, f => by simp [D.flat] at f
  | 0, .lst xs, f => by simp [D.flat] at f
  | n, .frz xs, f => by simp [D.flat] at f
  | n, .ins _ _ _, f => by simp [D.flat] at f
  | n, .hand, f => by simp [D.flat] at f
theorem eqv_reflL : ∀ (n : Nat) (ds : List D), D.flatL n ds = true → D.eqvL ds ds = true
  | _, [], _ => by simp [D.eqvL]
  | n, d :: ds, f => by
    simp only [D.flatL, Bool.and_eq_true] at f
    simp only [D.eqvL, eqv_refl n d f.1, eqv_reflL n ds f.2, Bool.and_self]
end
theorem flatL_map {α : Type} {f : α → D} {n : Nat} : ∀ xs : List α, (∀ x ∈ xs, D.flat n (f x) = true) → D.flatL n (xs.map f) = true
  | [], _ => by simp [D.flatL]
  | x :: xs, h => by
    rw [List.map_cons]
    simp only [D.flatL, h x (List.mem_cons_self ..), flatL_map xs (fun y hy => h y (List.mem_cons_of_mem _ hy)), Bool.and_self]
section
variable {w : Wd}
theorem eq_same {d : D} (h : D.flat 60 d = true) : eqD d d w = .ok (.bl true) w := by rw [eq_w ⟨h, h⟩, eqv_refl 60 d h]
theorem ne_same {d : D} (h : D.flat 60 d = true) : neD d d w = .ok (.bl false) w := by rw [ne_w ⟨h, h⟩, eqv_refl 60 d h]; rfl
end
end FL
namespace FL
open PySem
section
variable {ρ : Env} {w : Wd}
def enumAt : Nat → List D → List D
  | _, [] => []
  | n, x :: xs => .tup [.int (n : Int), x] :: enumAt (n + 1) xs
theorem enumL_at (xs : List D) : enumL xs = enumAt 0 xs := by
  have go : ∀ (xs : List D) (n : Nat), (xs.zipIdx n).map (fun p => D.tup [.int (p.2 : Int), p.1]) = enumAt n xs := by
    intro xs
    induction xs with
    | nil => intro n; rfl
    | cons x xs ih => intro n; rw [List.zipIdx_cons, List.map_cons, ih]; rfl
  exact go xs 0
theorem iEnum_w (e : EF) : iEnum e ρ w = bindK (e ρ w) fun x => M.bind (seqOf x) fun xs => M.ret (enumAt 0 xs) := by
  show bindK (e ρ w) _ = _
  simp only [enumL_at]
theorem forT2 (i j : Nat) (b : SF) (x y : D) (xs : List D) : forL (gT [i, j]) b (.tup [x, y] :: xs) ρ w = loopF (b ((ρ.set i (.val x)).set j (.val y)) w) (gT [i, j]) b xs := forL_cons rfl
theorem forT3 (i j k : Nat) (b : SF) (x y z : D) (xs : List D) : forL (gT [i, j, k]) b (.tup [x, y, z] :: xs) ρ w = loopF (b (((ρ.set i (.val x)).set j (.val y)).set k (.val z)) w) (gT [i, j, k]) b xs := forL_cons rfl
def rng : Nat → Nat → List D
  | _, 0 => []
  | n, m + 1 => .int (n : Int) :: rng (n + 1) m
theorem rangeL_at (n m : Nat) : rangeL (n : Int) ((n : Int) + (m : Int)) = rng n m := by
  unfold rangeL
  rw [show ((n : Int) + (m : Int) - (n : Int)).toNat = m by omega]
  induction m generalizing n with
  | zero => rfl
  | succ m ih =>
    rw [List.range_succ_eq_map, List.map_cons, List.map_map]
    show _ = D.int (n : Int) :: rng (n + 1) m
    rw [← ih (n + 1)]
    refine congr (congrArg _ (by simp)) (List.map_congr_left fun k _ => ?_)
    show D.int _ = D.int _
    congr 1
    show (n : Int) + ((k + 1 : Nat) : Int) = ((n + 1 : Nat) : Int) + (k : Int)
    omega
theorem range0 (m : Nat) (h : m < 1000000) : rangeM (.int 0) (.int (m : Int)) w = .ok (rng 0 m) w := by
  rw [range_w (by omega)]
  rw [← rangeL_at 0 m, show ((0 : Nat) : Int) + (m : Int) = (m : Int) by omega]
  rfl
theorem rng_map (m : Nat) : rng 0 m = (List.range m).map fun (k : Nat) => D.int (k : Int) := by
  have := rangeL_at 0 m
  rw [← this]
  unfold rangeL
  rw [show (((0 : Nat) : Int) + (m : Int) - ((0 : Nat) : Int)).toNat = m by omega]
  exact List.map_congr_left fun k _ => by
    show D.int _ = D.int _
    congr 1
    omega
def slK (x : D) (lo : Option Int) (y : D) : M D := match y with | .int i => sliceD x lo (some i) | _ => M.fail
def slL (x : D) (y : D) : M D := match y with | .int i => sliceD x (some i) none | _ => M.fail
theorem sl_hi (a e : EF) : eSlice a none (some e) ρ w = bindK (a ρ w) fun x => M.bind (e ρ) fun y => slK x none y := by
  show bindK (a ρ w) _ = _
  congr 1
  funext x w1
  show bindK (bindK ((e ρ) w1) _) _ = bindK ((e ρ) w1) _
  cases (e ρ) w1 with
  | ok y w2 => cases y <;> rfl
  | ex => rfl
  | bad => rfl
theorem sl_lo (a e : EF) : eSlice a (some e) none ρ w = bindK (a ρ w) fun x => M.bind (e ρ) fun y => slL x y := by
  show bindK (a ρ w) _ = _
  congr 1
  funext x w1
  show bindK (bindK ((e ρ) w1) _) _ = bindK ((e ρ) w1) _
  cases (e ρ) w1 with
  | ok y w2 => cases y <;> rfl
  | ex => rfl
  | bad => rfl
theorem slK_v (xs : List D) (k : Nat) : slK (.lst xs) none (.int (k : Int)) w = .ok (.lst (xs.take k)) w := by
  show R.ok (D.lst (cutL xs none (some (k : Int)))) w = _
  unfold cutL cutAt
  simp only [if_pos (Int.natCast_nonneg k), Int.toNat_natCast, List.drop_zero, Nat.sub_zero]
  congr 2
  rw [Nat.min_comm, ← List.take_take]
  exact List.take_of_length_le (by rw [List.length_take]; omega)
theorem slL_v (xs : List D) (k : Nat) : slL (.lst xs) (.int (k : Int)) w = .ok (.lst (xs.drop k)) w := by
  show R.ok (D.lst (cutL xs (some (k : Int)) none)) w = _
  unfold cutL cutAt
  simp only [if_pos (Int.natCast_nonneg k), Int.toNat_natCast]
  congr 2
  by_cases h : k ≤ xs.length
  · rw [Nat.min_eq_left h, List.take_of_length_le (by rw [List.length_drop]; omega)]
  · rw [Nat.min_eq_right (by omega), List.drop_length, List.drop_eq_nil_of_le (by omega)]; simp
theorem lcMap {α : Type} {f g : α → D} (i : Nat) (e : EF) : ∀ xs : List α, (∀ x ∈ xs, e (ρ.set i (.val (f x))) w = .ok (g x) w) → lcL (gN i) tYes e ρ (xs.map f) w = .ok (xs.map g) w
  | [], _ => rfl
  | x :: xs, h => by
    rw [List.map_cons, lcN, tYes_w, lcT_t, h x (List.mem_cons_self ..), lcE_v, lcMap i e xs fun y hy => h y (List.mem_cons_of_mem _ hy), bindK_ok, ret_w, List.map_cons]
def sMK (i : Nat) (f : List D → List D → Option (List D)) (s : Option Slot) (r : R (List D)) (ρ : Env) : SR := match s with
  | some (.own xs) => onK r ρ (mutK i f xs ρ)
  | _ => .bad
theorem sMut_w (i : Nat) (f : List D → List D → Option (List D)) (es : List EF) : sMut i f es ρ w = sMK i f ρ[i]? (evs es ρ w) ρ := by
  unfold sMut sMK
  cases ρ[i]? with
  | none => rfl
  | some s => cases s with
    | own xs => show onE _ _ _ _ = _; unfold onE onK; cases evs es ρ w <;> rfl
    | _ => rfl
theorem sMK_v (i : Nat) (f : List D → List D → Option (List D)) (xs ds : List D) : sMK i f (some (.own xs)) (.ok ds w) ρ = mutK i f xs ρ ds w := rfl
theorem bor_len (i : Nat) {xs : List D} (h : ρ[i]? = some (.own xs)) (n : noHandL xs = true) : eBor (eCall (un1 lenD) [eVar i]) ρ w = .ok (.int xs.length) w := by
  have e : (borE ρ)[i]? = some (.val (.lst xs)) := by
    unfold borE
    rw [List.getElem?_map, h]
    show some (if noHandL xs = true then Slot.val (.lst xs) else .none) = _
    rw [if_pos n]
  have e2 : eCall (un1 lenD) [eVar i] (borE ρ) none = .ok (.int xs.length) none := by
    rw [eCall_w, evs1_w, eVar_w, e, varK_v, bindK_ok, bind_w, evs0_w, bindK_ok, ret_w, bindK_ok, un1_w, len_lst]
  unfold eBor
  rw [e2]
  rfl
theorem itemMap {α : Type} {f : α → D} {xs : List α} {k : Nat} {x : α} (h : xs[k]? = some x) : itemAt (xs.map f) (k : Int) = some (f x) := item_nat (by omega) (by rw [Int.toNat_natCast, List.getElem?_map, h]; rfl)
theorem isi_lt_i (i : Int) : isiB [.list, .tuple] (.int i) w = .ok (.bl false) w := by rw [isi_w (n := "int") rfl rfl]; rfl
theorem isi_lt_b (i : Bool) : isiB [.list, .tuple] (.bl i) w = .ok (.bl false) w := by rw [isi_w (n := "bool") rfl rfl]; rfl
theorem isi_lt_n : isiB [.list, .tuple] .non w = .ok (.bl false) w := by rw [isi_w (n := "NoneType") rfl rfl]; rfl
theorem isi_lt_s (i : Str) : isiB [.list, .tuple] (.str i) w = .ok (.bl false) w := by rw [isi_w (n := "str") rfl rfl]; rfl
theorem isi_lt_t (i : List D) : isiB [.list, .tuple] (.tup i) w = .ok (.bl true) w := by rw [isi_w (n := "tuple") rfl rfl]; rfl
theorem isi_lt_l (i : List D) : isiB [.list, .tuple] (.lst i) w = .ok (.bl true) w := by rw [isi_w (n := "list") rfl rfl]; rfl
theorem isi_lt_f (i : List D) : isiB [.list, .tuple] (.frz i) w = .ok (.bl true) w := by rw [isi_w (n := "list") rfl rfl]; rfl
end
end FL
namespace FL
open PySem
section
variable {ρ : Env} {w : Wd}
theorem eMake_w (k : Nat) (ns : List Str) (F : List D → M (List D)) (fs : List EF) : eMake k ns F fs ρ w = bindK (evs fs ρ w) fun ds => M.bind (F ds) fun xs => M.ret (.ins k ns xs) := rfl
theorem ne_bl (a b : Bool) : neD (.bl a) (.bl b) w = .ok (.bl (!(a == b))) w := by rw [ne_w ⟨rfl, rfl⟩]; rfl
theorem eq_bl (a b : Bool) : eqD (.bl a) (.bl b) w = .ok (.bl (a == b)) w := by rw [eq_w ⟨rfl, rfl⟩]; rfl
theorem item_last (xs : List D) (d : D) : itemAt (xs ++ [d]) (-1) = some d := by
  unfold itemAt ixP
  rw [List.length_append, List.length_singleton, if_neg (by omega), if_pos (by omega)]
  show (xs ++ [d])[(((xs.length + 1 : Nat) : Int) + -1).toNat]? = some d
  rw [show (((xs.length + 1 : Nat) : Int) + -1).toNat = xs.length by omega, List.getElem?_append_right (Nat.le_refl _), Nat.sub_self]
  rfl
theorem item4 (x y z u v : D) (xs : List D) : itemAt (x :: y :: z :: u :: v :: xs) 4 = some v := item_nat (i := 4) (by decide) rfl
theorem item5 (x y z u v a : D) (xs : List D) : itemAt (x :: y :: z :: u :: v :: a :: xs) 5 = some a := item_nat (i := 5) (by decide) rfl
theorem item6 (x y z u v a b : D) (xs : List D) : itemAt (x :: y :: z :: u :: v :: a :: b :: xs) 6 = some b := item_nat (i := 6) (by decide) rfl
theorem item7 (x y z u v a b c : D) (xs : List D) : itemAt (x :: y :: z :: u :: v :: a :: b :: c :: xs) 7 = some c := item_nat (i := 7) (by decide) rfl
def unpLK (is : List Nat) (ρ : Env) (d : D) (w : Wd) : SR := match gL is d ρ with
  | some ρ' => .nx ρ' w
  | none => .bad
theorem sUnpL_w (is : List Nat) (e : EF) : sUnpL is e ρ w = onK (e ρ w) ρ (unpLK is ρ) := by
  unfold sUnpL onE onK
  cases e ρ w <;> rfl
theorem unpL_2 (i j : Nat) (x y : D) : unpLK [i, j] ρ (.lst [x, y]) w = .nx ((ρ.set i (.val x)).set j (.val y)) w := rfl
theorem unpL_3 (i j k : Nat) (x y z : D) : unpLK [i, j, k] ρ (.lst [x, y, z]) w = .nx (((ρ.set i (.val x)).set j (.val y)).set k (.val z)) w := rfl
theorem unpL_6 (i j k l m n : Nat) (x y z u v a : D) : unpLK [i, j, k, l, m, n] ρ (.lst [x, y, z, u, v, a]) w = .nx ((((((ρ.set i (.val x)).set j (.val y)).set k (.val z)).set l (.val u)).set m (.val v)).set n (.val a)) w := rfl
theorem lt_line {n : Nat} (h : n < 1000) : n < line := by unfold line; omega
theorem le_line {n : Nat} (h : n ≤ 1000) : n ≤ line := by unfold line; omega
variable {T : Tab}
end
end FL
namespace FL
open PySem
section
variable {ρ : Env} {w : Wd}
def borK (r : R D) (w : Wd) : R D := match r with
  | .ok d none => if noLst d = true then .ok d w else .bad
  | .ex c ns xs none => if noLstL xs = true then .ex c ns xs w else .bad
  | _ => .bad
theorem eBor_w (e : EF) : eBor e ρ w = borK (e (borE ρ) none) w := by
  unfold eBor borK
  rfl
theorem borK_v {d : D} (h : noLst d = true) : borK (.ok d none) w = .ok d w := if_pos h
def borT (r : R Bool) (w : Wd) : R Bool := match r with
  | .ok d none => .ok d w
  | .ex c ns xs none => if noLstL xs = true then .ex c ns xs w else .bad
  | _ => .bad
theorem tBor_w (t : TF) : tBor t ρ w = borT (t (borE ρ) none) w := by
  unfold tBor borT
  rfl
theorem borT_v (b : Bool) : borT (.ok b none) w = .ok b w := rfl
theorem borE_n : borE [] = [] := rfl
theorem borE_c (s : Slot) (ρ : Env) : borE (s :: ρ) = borS s :: borE ρ := rfl
theorem borS_n : borS .none = .none := rfl
theorem borS_v {d : D} (h : noHand d = true) : borS (.val d) = .val d := if_pos h
theorem borS_h : borS (.val .hand) = .none := rfl
theorem borS_o {xs : List D} (h : noHandL xs = true) : borS (.own xs) = .val (.lst xs) := if_pos h
theorem varK_nest (xs : List D) : varK (some (.nest xs)) w = .ok (.lst xs) w := rfl
def slfK (s : Option Slot) (es : List EF) (ρ : Env) (w : Wd) : R (List D) := match s with
  | some .slf => evs es ρ w
  | _ => .bad
def iniK (r : SR) (es : List EF) : R (List D) := match r with
  | .nx ρ w => slfK ρ[0]? es ρ w
  | .ex c ns xs _ w => .ex c ns xs w
  | _ => .bad
theorem init_w (n : Nat) (b : SF) (es : List EF) (ds : List D) : initF n b es ds w = iniK (b (.slf :: (vals ds ++ List.replicate (n - ds.length - 1) .none)) w) es := by
  unfold initF stepN iniK slfK
  rfl
theorem iniK_nx (es : List EF) : iniK (.nx ρ w) es = slfK ρ[0]? es ρ w := rfl
theorem iniK_ex (c : Nat) (ns : List Str) (xs : List D) (es : List EF) : iniK (.ex c ns xs ρ w) es = .ex c ns xs w := rfl
theorem slfK_v (es : List EF) : slfK (some .slf) es ρ w = evs es ρ w := rfl
def ownK (s : Option Slot) (k : EF) (ρ : Env) (w : Wd) : R D := match s with
  | some (.own xs) => bindK (k ρ w) (ixL xs)
  | _ => .bad
theorem eOwnIx_w (i : Nat) (k : EF) : eOwnIx i k ρ w = ownK ρ[i]? k ρ w := by
  unfold eOwnIx ownK
  cases ρ[i]? with
  | none => rfl
  | some s => cases s <;> rfl
theorem ownK_v (xs : List D) (k : EF) : ownK (some (.own xs)) k ρ w = bindK (k ρ w) (ixL xs) := rfl
theorem ixL_w (xs : List D) (i : Int) : ixL xs (.int i) w = itK (itemAt xs i) w := by unfold ixL itK; simp only; cases itemAt xs i <;> rfl
def itmK (s : Option Slot) (i : Nat) (k e : EF) (ρ : Env) (w : Wd) : SR := match s with
  | some (.own _) => onK (bindK (e ρ w) fun d => M.bind (k ρ) fun j => M.ret [d, j]) ρ (stK i ρ)
  | _ => .bad
theorem onE_K {α : Type} (m : M α) (k : α → Wd → SR) : onE m ρ w k = onK (m w) ρ k := by unfold onE onK; cases m w <;> rfl
theorem sItem_w (i : Nat) (k e : EF) : sItem i k e ρ w = itmK ρ[i]? i k e ρ w := by
  unfold sItem itmK
  cases ρ[i]? with
  | none => rfl
  | some s => cases s with
    | own xs => exact onE_K _ _
    | _ => rfl
theorem itmK_v (i : Nat) (xs : List D) (k e : EF) : itmK (some (.own xs)) i k e ρ w = onK (bindK (e ρ w) fun d => M.bind (k ρ) fun j => M.ret [d, j]) ρ (stK i ρ) := rfl
theorem stK_v {i : Nat} {xs : List D} {d : D} {j : Int} {n : Nat} (h : ρ[i]? = some (.own xs)) (e : ixP xs.length j = some n) : stK i ρ [d, .int j] w = .nx (ρ.set i (.own (xs.set n d))) w := by
  unfold stK
  simp only [h, e]
theorem ixP_in {n : Nat} {j : Int} (h0 : 0 ≤ j) (h : j < n) : ixP n j = some j.toNat := by unfold ixP; rw [if_pos ⟨h0, h⟩]
def ptTK (s : Option Slot) (i : Nat) (k e : EF) (ρ : Env) (w : Wd) : SR := match s with
  | some (.val (.lst _)) => onK (bindK (e ρ w) fun d => M.bind (k ρ) fun j => M.ret [d, j]) ρ (pTK i ρ)
  | _ => .bad
theorem sPutT_w (i : Nat) (k e : EF) : sPutT i k e ρ w = ptTK ρ[i]? i k e ρ w := by
  unfold sPutT ptTK
  cases ρ[i]? with
  | none => rfl
  | some s => cases s with
    | val d => cases d with
      | lst xs => exact onE_K _ _
      | _ => rfl
    | _ => rfl
theorem ptTK_v (i : Nat) (xs : List D) (k e : EF) : ptTK (some (.val (.lst xs))) i k e ρ w = onK (bindK (e ρ w) fun d => M.bind (k ρ) fun j => M.ret [d, j]) ρ (pTK i ρ) := rfl
def p2KK (s : Option Slot) (i : Nat) (fj fk fe : EF) (ρ : Env) (w : Wd) : SR := match s with
  | some (.nest ds) => onK (bindK (fe ρ w) fun d => M.bind (fj ρ) fun j => M.bind (ixL ds j) fun _ => M.bind (fk ρ) fun k => M.ret [d, j, k]) ρ (p2K i ρ)
  | _ => .bad
theorem sPut2_w (i : Nat) (fj fk fe : EF) : sPut2 i fj fk fe ρ w = p2KK ρ[i]? i fj fk fe ρ w := by
  unfold sPut2 p2KK
  cases ρ[i]? with
  | none => rfl
  | some s => cases s with
    | nest ds => exact onE_K _ _
    | _ => rfl
theorem p2KK_v (i : Nat) (ds : List D) (fj fk fe : EF) : p2KK (some (.nest ds)) i fj fk fe ρ w = onK (bindK (fe ρ w) fun d => M.bind (fj ρ) fun j => M.bind (ixL ds j) fun _ => M.bind (fk ρ) fun k => M.ret [d, j, k]) ρ (p2K i ρ) := rfl
theorem sNest_w (i : Nat) (f : NF) : sNest i f ρ w = onK (f ρ w) ρ fun ds w' => .nx (ρ.set i (.nest ds)) w' := onE_K _ _
theorem tIfE_w (t a b : TF) : tIfE t a b ρ w = bindK (t ρ w) fun k => if k = true then a ρ else b ρ := rfl
theorem eOrT_w (a b : EF) : eOrT a b ρ w = bindK (a ρ w) fun x => M.bind (truth x) fun k => if k = true then M.ret x else b ρ := rfl
theorem wipT_n (t : List D) : wipT t [] = [] := rfl
theorem wipT_c (t : List D) (s : Slot) (ρ : Env) : wipT t (s :: ρ) = wipS t s :: wipT t ρ := rfl
theorem wipS_none (t : List D) : wipS t .none = .none := rfl
theorem wipS_o (t xs : List D) : wipS t (.own xs) = .own xs := rfl
end
end FL
namespace FL
open PySem
section
variable {α : Type}
theorem c_len (a : α) (as : List α) : (a :: as).length = as.length + 1 := rfl
theorem c_len0 : ([] : List α).length = 0 := rfl
theorem c_rep (n : Nat) (a : α) : List.replicate (n + 1) a = a :: List.replicate n a := rfl
theorem c_rep0 (a : α) : List.replicate 0 a = [] := rfl
theorem c_app (a : α) (as bs : List α) : (a :: as) ++ bs = a :: (as ++ bs) := rfl
theorem c_app0 (as : List α) : [] ++ as = as := rfl
theorem c_get0 (a : α) (as : List α) : (a :: as)[0]? = some a := rfl
theorem c_get1 (a : α) (as : List α) (n : Nat) : (a :: as)[n + 1]? = as[n]? := rfl
theorem c_set0 (a b : α) (as : List α) : (a :: as).set 0 b = b :: as := rfl
theorem c_set1 (a b : α) (as : List α) (n : Nat) : (a :: as).set (n + 1) b = a :: as.set n b := rfl
theorem c_zadd (n : Nat) : 0 + n = n := Nat.zero_add n
end
theorem c_nt : (!true) = false := rfl
theorem c_nf : (!false) = true := rfl
theorem c_aa (b : Bool) : (b && b) = b := by cases b <;> rfl
theorem c_at (b : Bool) : (b && true) = b := by cases b <;> rfl
theorem c_af (b : Bool) : (b && false) = false := by cases b <;> rfl
theorem c_ta (b : Bool) : (true && b) = b := rfl
theorem c_fa (b : Bool) : (false && b) = false := rfl
theorem c_ott (b : Bool) : (true || b) = true := rfl
theorem c_off (b : Bool) : (false || b) = b := rfl
theorem c_beq (i : Int) : (i == i) = true := beq_self_eq_true i
theorem c_bne (i : Int) : (i != i) = false := by simp
theorem c_dt : decide True = true := rfl
theorem c_df : decide False = false := rfl
section
variable (i : Int) (b : Bool) (x : Str) (xs : List D) (d : D) (k : Nat) (ns : List Str) (n : Nat)
theorem nh_i : noHand (.int i) = true := rfl
theorem nh_b : noHand (.bl b) = true := rfl
theorem nh_s : noHand (.str x) = true := rfl
theorem nh_n : noHand .non = true := rfl
theorem nh_t : noHand (.tup xs) = noHandL xs := rfl
theorem nh_l : noHand (.lst xs) = noHandL xs := rfl
theorem nh_o : noHand (.ins k ns xs) = noHandL xs := rfl
theorem nh_0 : noHandL [] = true := rfl
theorem nh_c : noHandL (d :: xs) = (noHand d && noHandL xs) := rfl
theorem nl_i : noLst (.int i) = true := rfl
theorem nl_b : noLst (.bl b) = true := rfl
theorem nl_s : noLst (.str x) = true := rfl
theorem nl_n : noLst .non = true := rfl
theorem nl_t : noLst (.tup xs) = noLstL xs := rfl
theorem nl_o : noLst (.ins k ns xs) = noLstL xs := rfl
theorem nl_0 : noLstL [] = true := rfl
theorem nl_c : noLstL (d :: xs) = (noLst d && noLstL xs) := rfl
theorem non_n : D.isNon .non = true := rfl
theorem non_i : D.isNon (.int i) = false := rfl
theorem non_b : D.isNon (.bl b) = false := rfl
theorem non_s : D.isNon (.str x) = false := rfl
theorem non_t : D.isNon (.tup xs) = false := rfl
theorem non_l : D.isNon (.lst xs) = false := rfl
theorem non_o : D.isNon (.ins k ns xs) = false := rfl
variable {ρ : Env} {w : Wd}
theorem borS_vv {d : D} (h : noHand d = true) : borS (.val d) = .val d := borS_v h
theorem borS_oo {xs : List D} (h : noHandL xs = true) : borS (.own xs) = .val (.lst xs) := borS_o h
theorem borK_vv {d : D} (h : noLst d = true) : borK (.ok d none) w = .ok d w := borK_v h
end
section
variable {w : Wd}
theorem nList_w (e : EF) {ρ : FL.Env} : nList e ρ w = bindK (e ρ w) itemsD := rfl
theorem items_t (xs : List D) : itemsD (.tup xs) w = .ok xs w := rfl
theorem items_l (xs : List D) : itemsD (.lst xs) w = .ok xs w := rfl
end
section
variable (t xs ns' : List D) (d : D) (i : Int) (b : Bool) (x : Str) (k : Nat) (ns : List Str)
theorem noT_l : noT t (.lst xs) = (unlL t xs && noTL t xs) := rfl
theorem noT_t : noT t (.tup xs) = noTL t xs := rfl
theorem noT_o : noT t (.ins k ns xs) = noTL t xs := rfl
theorem noT_i : noT t (.int i) = true := rfl
theorem noT_b : noT t (.bl b) = true := rfl
theorem noT_s : noT t (.str x) = true := rfl
theorem noT_n : noT t .non = true := rfl
theorem noT_h : noT t .hand = true := rfl
theorem noT_0 : noTL t [] = true := rfl
theorem noT_c : noTL t (d :: xs) = (noT t d && noTL t xs) := rfl
end
section
variable {α : Type}
theorem c_ft : (false = true) = False := by simp
theorem c_it (a b : α) [Decidable True] : (if True then a else b) = a := if_pos trivial
theorem c_if (a b : α) [Decidable False] : (if False then a else b) = b := if_neg not_false
end
section
variable {w : Wd}
end
section
variable {ρ : Env} {w : Wd}
def retOwnK (s : Option Slot) (w : Wd) : SR := match s with
  | some (.own xs) => .rt (.lst xs) w
  | _ => .bad
theorem retOwn_w (i : Nat) : sRetOwn i ρ w = retOwnK ρ[i]? w := by
  unfold sRetOwn retOwnK
  cases ρ[i]? with
  | none => rfl
  | some s => cases s <;> rfl
theorem retOwnK_v (xs : List D) : retOwnK (some (.own xs)) w = .rt (.lst xs) w := rfl
end
section
variable {w : Wd}
theorem lenT_l (T : PTab) (xs : List D) : lenT T [.lst xs] w = .ok (.int xs.length) w := rfl
theorem lenT_t (T : PTab) (xs : List D) : lenT T [.tup xs] w = .ok (.int xs.length) w := rfl
end
section
variable {ρ : Env} {w : Wd}
def tryMK (r : SR) (hs : List HdF) : SR := match r with
  | .ex c ns xs ρ' w' => pickH hs c ns xs ρ' w'
  | r => r
theorem sTryM_w (b : SF) (hs : List HdF) : sTryM b hs ρ w = tryMK (b ρ w) hs := by
  unfold sTryM tryMK
  cases b ρ w <;> rfl
theorem tryMK_nx (hs : List HdF) : tryMK (.nx ρ w) hs = .nx ρ w := rfl
theorem tryMK_rt (d : D) (hs : List HdF) : tryMK (.rt d w) hs = .rt d w := rfl
theorem tryMK_ex (c : Nat) (ns : List Str) (xs : List D) (hs : List HdF) : tryMK (.ex c ns xs ρ w) hs = pickH hs c ns xs ρ w := rfl
theorem suiteN_nx : suiteN (.nx ρ w) = .nx ρ w := rfl
theorem suiteN_rt (d : D) : suiteN (.rt d w) = .rt d w := rfl
end
end FL
namespace FL
open PySem
section
variable {ρ : Env} {w : Wd}
theorem intsD_v (f : Int → Int → Int) (i j : Int) : intsD f (.int i) (.int j) w = .ok (.int (f i j)) w := rfl
theorem ixHD_v (i : D) : ixHD .hand i w = ixD .hand i w := rfl
theorem intsIn_map : ∀ ns : List Int, intsIn (ns.map D.int) = some ns
  | [] => rfl
  | n :: ns => by
    show (intsIn (ns.map D.int)).map (n :: ·) = _
    rw [intsIn_map ns]
    rfl
theorem blsIn_map : ∀ ns : List Bool, blsIn (ns.map D.bl) = some ns
  | [] => rfl
  | n :: ns => by
    show (blsIn (ns.map D.bl)).map (n :: ·) = _
    rw [blsIn_map ns]
    rfl
theorem sum_ints (ns : List Int) : sumD (.lst (ns.map D.int)) w = .ok (.int ns.sum) w := by
  unfold sumD
  rw [show (seqD (.lst (ns.map D.int))).bind intsIn = some ns from intsIn_map ns]
  rfl
theorem all_bls (ns : List Bool) : allD (.lst (ns.map D.bl)) w = .ok (.bl (ns.all id)) w := by
  unfold allD
  rw [show (seqD (.lst (ns.map D.bl))).bind blsIn = some ns from blsIn_map ns]
  rfl
theorem any_bls (ns : List Bool) : anyD (.lst (ns.map D.bl)) w = .ok (.bl (ns.any id)) w := by
  unfold anyD
  rw [show (seqD (.lst (ns.map D.bl))).bind blsIn = some ns from blsIn_map ns]
  rfl
def methM (m : Str) (T : PTab) (fs : List EF) (ρ : Env) (o : D) : M D := match o with
  | .ins k ns xs => if ns.contains m then M.fail else match findP k T with
    | some F => M.bind (evs fs ρ) fun ds => F (.ins k ns xs :: ds)
    | none => M.fail
  | _ => M.fail
theorem eMeth_w (m : Str) (T : PTab) (fo : EF) (fs : List EF) : eMeth m T fo fs ρ w = bindK (fo ρ w) (methM m T fs ρ) := rfl
theorem sHAug_w (f : Int → Int → Int) (h k e : EF) : sHAug f h k e ρ w = onK (bindK (h ρ w) fun o => M.bind (k ρ) fun i => M.bind (ixHD o i) fun x => M.bind (e ρ) fun y => M.bind (intsD f x y) fun z => M.ret [z, o, i]) ρ (hsK ρ) := rfl
theorem hsK_4 (d x y z u v : D) (hs : List D) : hsK ρ [d, .hand, .int 4] (some (x :: y :: z :: u :: v :: hs)) = .nx ρ (some (x :: y :: z :: u :: d :: hs)) := by
  rw [hsK_v (j := 4)]; rfl
  unfold ixP; rw [if_pos ⟨by decide, by simp only [List.length_cons]; omega⟩]; rfl
theorem nRep_w (fa fb : EF) : nRep fa fb ρ w = bindK (fa ρ w) fun x => M.bind (fb ρ) fun k => repN x k := rfl
end
theorem iZipL_w (fs : List EF) : iZipL fs ρ w = bindK (evs fs ρ w) zipOf := rfl
theorem zipOf_w (x y : D) : zipOf [x, y] w = bindK (seqOf x w) fun xs => M.bind (seqOf y) fun ys => M.ret (zipL xs ys) := rfl
theorem iRevF_w (f : EF) : iRevF f ρ w = bindK (f ρ w) fun x => M.bind (seqOf x) fun xs => M.ret xs.reverse := rfl
end FL
local macro_rules
  | `(tactic| simp? only [$a,*]) => `(tactic| simp -implicitDefEqProofs only [FL.bind_w, FL.bindK_ok, FL.bindK_ex, FL.ret_w, FL.fail_w, FL.eVar_w, FL.varK_v, FL.eC_w, FL.eUn_w, FL.eBin_w, FL.evs0_w, FL.evs1_w, FL.eTup_w, FL.eLst_w, FL.eCall_w, FL.eIf_w, FL.ifE_t, FL.ifE_f, FL.eAnd_w, FL.andE_t, FL.andE_f, FL.eOr_w, FL.orE_t, FL.orE_f, FL.eNot_w, FL.chainM_w, FL.eChain_w, FL.chainK_t, FL.chainK_f, FL.eNew_w, FL.eHand_w, FL.handK_ok, FL.eXf_w, FL.tVal_w, FL.tTru_w, FL.tNot_w, FL.tYes_w, FL.tAnd_w, FL.tOr_w, FL.andT_t, FL.andT_f, FL.orT_t, FL.orT_f, FL.boolOf_w, FL.truth_bl, FL.truth_int, FL.truth_non, FL.truth_lst, FL.truth_tup, FL.truth_frz, FL.add_int, FL.sub_int, FL.neg_int, FL.lt_int, FL.le_int, FL.gt_int, FL.ge_int, FL.isNon_w, FL.notNon_w, FL.is_w, FL.isNot_w, FL.int_w, FL.abs_w, FL.gcd_w, FL.tup_w, FL.tupt_w, FL.list_w, FL.listl_w, FL.len_lst, FL.len_tup, FL.len_frz, FL.un1_w, FL.bin2_w, FL.eq_int, FL.ne_int, FL.eq_pair, FL.ne_pair, FL.ix_lst, FL.ix_frz, FL.ix_tup, FL.ix_hand, FL.itK_v, FL.item0, FL.item1, FL.item2, FL.item3, FL.isi_int_i, FL.isi_int_b, FL.isi_int_n, FL.isi_int_s, FL.isi_int_t, FL.isi_int_l, FL.isi_int_f, FL.isi_int_h, FL.isi_bool_i, FL.isi_bool_b, FL.isi_bool_n, FL.isi_bool_s, FL.isi_bool_t, FL.isi_bool_l, FL.isi_bool_f, FL.isi_bool_h, FL.isi_str_i, FL.isi_str_b, FL.isi_str_n, FL.isi_str_s, FL.isi_str_t, FL.isi_str_l, FL.isi_str_f, FL.isi_str_h, FL.isi_tuple_i, FL.isi_tuple_b, FL.isi_tuple_n, FL.isi_tuple_s, FL.isi_tuple_t, FL.isi_tuple_l, FL.isi_tuple_f, FL.isi_tuple_h, FL.isi_list_i, FL.isi_list_b, FL.isi_list_n, FL.isi_list_s, FL.isi_list_t, FL.isi_list_l, FL.isi_list_f, FL.isi_list_h, FL.isi_dict_i, FL.isi_dict_b, FL.isi_dict_n, FL.isi_dict_s, FL.isi_dict_t, FL.isi_dict_l, FL.isi_dict_f, FL.isi_dict_h, FL.nLc_w, FL.lcB_ok, FL.lc0, FL.lcN, FL.lcT_t, FL.lcT_f, FL.lcE_v, FL.wipeE0, FL.wipeE1, FL.eJs_w, FL.js0, FL.js1, FL.sSeq_w, FL.seqK_nx, FL.seqK_rt, FL.seqK_bk, FL.seqK_ct, FL.seqK_ex, FL.onK_ok, FL.onK_ex, FL.sNext_w, FL.sSet_w, FL.sOwn_w, FL.sFrz_w, FL.frzK_v, FL.sApp_w, FL.sExpr_w, FL.sRet_w, FL.sRetN_w, FL.sIf_w, FL.ifK_t, FL.ifK_f, FL.sBrk_w, FL.sCnt_w, FL.sPar_w, FL.parK_v, FL.sUnp_w, FL.unpK_2, FL.unpK_3, FL.unpK_4, FL.sHSet_w, FL.hsK_0, FL.hsK_1, FL.hsK_2, FL.hsK_3, FL.sRaise_w, FL.sFor_w, FL.iSeq_w, FL.seqOf_lst, FL.seqOf_tup, FL.seqOf_frz, FL.iRng_w, FL.loopK_nx, FL.loopK_ct, FL.loopK_bk, FL.loopK_rt, FL.for0, FL.forN, FL.loopF_nx, FL.loopF_ct, FL.loopF_bk, FL.loopF_rt, FL.loopF_ex, FL.sWhile_w, FL.sTry_w, FL.tryK_nx, FL.tryK_rt, FL.suiteK_nx, FL.suiteK_rt, FL.wipe0, FL.wipe_v, FL.wipe_n, FL.wipe_o, FL.call_w, FL.callK_nx, FL.callK_rt, FL.callK_ex, FL.vals0, FL.vals1, FL.iEnum_w, FL.forT2, FL.forT3, FL.sl_hi, FL.sl_lo, FL.sMut_w, FL.sMK_v, FL.isi_lt_i, FL.isi_lt_b, FL.isi_lt_n, FL.isi_lt_s, FL.isi_lt_t, FL.isi_lt_l, FL.isi_lt_f, FL.eMake_w, FL.ne_bl, FL.eq_bl, FL.item4, FL.item5, FL.item6, FL.item7, FL.sUnpL_w, FL.unpL_2, FL.unpL_3, FL.unpL_6, FL.eBor_w, FL.tBor_w, FL.borT_v, FL.borE_n, FL.borE_c, FL.borS_n, FL.borS_h, FL.varK_nest, FL.init_w, FL.iniK_nx, FL.iniK_ex, FL.slfK_v, FL.eOwnIx_w, FL.ownK_v, FL.ixL_w, FL.sItem_w, FL.itmK_v, FL.sPutT_w, FL.ptTK_v, FL.sPut2_w, FL.p2KK_v, FL.sNest_w, FL.tIfE_w, FL.eOrT_w, FL.wipT_n, FL.wipT_c, FL.wipS_none, FL.wipS_o, FL.c_len, FL.c_len0, FL.c_rep, FL.c_rep0, FL.c_app, FL.c_app0, FL.c_get0, FL.c_get1, FL.c_set0, FL.c_set1, FL.c_zadd, FL.c_nt, FL.c_nf, FL.c_aa, FL.c_at, FL.c_af, FL.c_ta, FL.c_fa, FL.c_ott, FL.c_off, FL.c_beq, FL.c_bne, FL.c_dt, FL.c_df, FL.nh_i, FL.nh_b, FL.nh_s, FL.nh_n, FL.nh_t, FL.nh_l, FL.nh_o, FL.nh_0, FL.nh_c, FL.nl_i, FL.nl_b, FL.nl_s, FL.nl_n, FL.nl_t, FL.nl_o, FL.nl_0, FL.nl_c, FL.non_n, FL.non_i, FL.non_b, FL.non_s, FL.non_t, FL.non_l, FL.non_o, FL.borS_vv, FL.borS_oo, FL.borK_vv, FL.nList_w, FL.items_t, FL.items_l, FL.noT_l, FL.noT_t, FL.noT_o, FL.noT_i, FL.noT_b, FL.noT_s, FL.noT_n, FL.noT_h, FL.noT_0, FL.noT_c, FL.c_ft, FL.c_it, FL.c_if, FL.retOwn_w, FL.retOwnK_v, FL.lenT_l, FL.lenT_t, FL.sTryM_w, FL.tryMK_nx, FL.tryMK_rt, FL.tryMK_ex, FL.suiteN_nx, FL.suiteN_rt, FL.intsD_v, FL.ixHD_v, FL.sum_ints, FL.all_bls, FL.any_bls, FL.eMeth_w, FL.sHAug_w, FL.hsK_4, FL.nRep_w, FL.iZipL_w, FL.zipOf_w, FL.iRevF_w, $a,*])
local macro_rules
  | `(tactic| simp? only [$a,*] $l:location) => `(tactic| simp -implicitDefEqProofs only [FL.bind_w, FL.bindK_ok, FL.bindK_ex, FL.ret_w, FL.fail_w, FL.eVar_w, FL.varK_v, FL.eC_w, FL.eUn_w, FL.eBin_w, FL.evs0_w, FL.evs1_w, FL.eTup_w, FL.eLst_w, FL.eCall_w, FL.eIf_w, FL.ifE_t, FL.ifE_f, FL.eAnd_w, FL.andE_t, FL.andE_f, FL.eOr_w, FL.orE_t, FL.orE_f, FL.eNot_w, FL.chainM_w, FL.eChain_w, FL.chainK_t, FL.chainK_f, FL.eNew_w, FL.eHand_w, FL.handK_ok, FL.eXf_w, FL.tVal_w, FL.tTru_w, FL.tNot_w, FL.tYes_w, FL.tAnd_w, FL.tOr_w, FL.andT_t, FL.andT_f, FL.orT_t, FL.orT_f, FL.boolOf_w, FL.truth_bl, FL.truth_int, FL.truth_non, FL.truth_lst, FL.truth_tup, FL.truth_frz, FL.add_int, FL.sub_int, FL.neg_int, FL.lt_int, FL.le_int, FL.gt_int, FL.ge_int, FL.isNon_w, FL.notNon_w, FL.is_w, FL.isNot_w, FL.int_w, FL.abs_w, FL.gcd_w, FL.tup_w, FL.tupt_w, FL.list_w, FL.listl_w, FL.len_lst, FL.len_tup, FL.len_frz, FL.un1_w, FL.bin2_w, FL.eq_int, FL.ne_int, FL.eq_pair, FL.ne_pair, FL.ix_lst, FL.ix_frz, FL.ix_tup, FL.ix_hand, FL.itK_v, FL.item0, FL.item1, FL.item2, FL.item3, FL.isi_int_i, FL.isi_int_b, FL.isi_int_n, FL.isi_int_s, FL.isi_int_t, FL.isi_int_l, FL.isi_int_f, FL.isi_int_h, FL.isi_bool_i, FL.isi_bool_b, FL.isi_bool_n, FL.isi_bool_s, FL.isi_bool_t, FL.isi_bool_l, FL.isi_bool_f, FL.isi_bool_h, FL.isi_str_i, FL.isi_str_b, FL.isi_str_n, FL.isi_str_s, FL.isi_str_t, FL.isi_str_l, FL.isi_str_f, FL.isi_str_h, FL.isi_tuple_i, FL.isi_tuple_b, FL.isi_tuple_n, FL.isi_tuple_s, FL.isi_tuple_t, FL.isi_tuple_l, FL.isi_tuple_f, FL.isi_tuple_h, FL.isi_list_i, FL.isi_list_b, FL.isi_list_n, FL.isi_list_s, FL.isi_list_t, FL.isi_list_l, FL.isi_list_f, FL.isi_list_h, FL.isi_dict_i, FL.isi_dict_b, FL.isi_dict_n, FL.isi_dict_s, FL.isi_dict_t, FL.isi_dict_l, FL.isi_dict_f, FL.isi_dict_h, FL.nLc_w, FL.lcB_ok, FL.lc0, FL.lcN, FL.lcT_t, FL.lcT_f, FL.lcE_v, FL.wipeE0, FL.wipeE1, FL.eJs_w, FL.js0, FL.js1, FL.sSeq_w, FL.seqK_nx, FL.seqK_rt, FL.seqK_bk, FL.seqK_ct, FL.seqK_ex, FL.onK_ok, FL.onK_ex, FL.sNext_w, FL.sSet_w, FL.sOwn_w, FL.sFrz_w, FL.frzK_v, FL.sApp_w, FL.sExpr_w, FL.sRet_w, FL.sRetN_w, FL.sIf_w, FL.ifK_t, FL.ifK_f, FL.sBrk_w, FL.sCnt_w, FL.sPar_w, FL.parK_v, FL.sUnp_w, FL.unpK_2, FL.unpK_3, FL.unpK_4, FL.sHSet_w, FL.hsK_0, FL.hsK_1, FL.hsK_2, FL.hsK_3, FL.sRaise_w, FL.sFor_w, FL.iSeq_w, FL.seqOf_lst, FL.seqOf_tup, FL.seqOf_frz, FL.iRng_w, FL.loopK_nx, FL.loopK_ct, FL.loopK_bk, FL.loopK_rt, FL.for0, FL.forN, FL.loopF_nx, FL.loopF_ct, FL.loopF_bk, FL.loopF_rt, FL.loopF_ex, FL.sWhile_w, FL.sTry_w, FL.tryK_nx, FL.tryK_rt, FL.suiteK_nx, FL.suiteK_rt, FL.wipe0, FL.wipe_v, FL.wipe_n, FL.wipe_o, FL.call_w, FL.callK_nx, FL.callK_rt, FL.callK_ex, FL.vals0, FL.vals1, FL.iEnum_w, FL.forT2, FL.forT3, FL.sl_hi, FL.sl_lo, FL.sMut_w, FL.sMK_v, FL.isi_lt_i, FL.isi_lt_b, FL.isi_lt_n, FL.isi_lt_s, FL.isi_lt_t, FL.isi_lt_l, FL.isi_lt_f, FL.eMake_w, FL.ne_bl, FL.eq_bl, FL.item4, FL.item5, FL.item6, FL.item7, FL.sUnpL_w, FL.unpL_2, FL.unpL_3, FL.unpL_6, FL.eBor_w, FL.tBor_w, FL.borT_v, FL.borE_n, FL.borE_c, FL.borS_n, FL.borS_h, FL.varK_nest, FL.init_w, FL.iniK_nx, FL.iniK_ex, FL.slfK_v, FL.eOwnIx_w, FL.ownK_v, FL.ixL_w, FL.sItem_w, FL.itmK_v, FL.sPutT_w, FL.ptTK_v, FL.sPut2_w, FL.p2KK_v, FL.sNest_w, FL.tIfE_w, FL.eOrT_w, FL.wipT_n, FL.wipT_c, FL.wipS_none, FL.wipS_o, FL.c_len, FL.c_len0, FL.c_rep, FL.c_rep0, FL.c_app, FL.c_app0, FL.c_get0, FL.c_get1, FL.c_set0, FL.c_set1, FL.c_zadd, FL.c_nt, FL.c_nf, FL.c_aa, FL.c_at, FL.c_af, FL.c_ta, FL.c_fa, FL.c_ott, FL.c_off, FL.c_beq, FL.c_bne, FL.c_dt, FL.c_df, FL.nh_i, FL.nh_b, FL.nh_s, FL.nh_n, FL.nh_t, FL.nh_l, FL.nh_o, FL.nh_0, FL.nh_c, FL.nl_i, FL.nl_b, FL.nl_s, FL.nl_n, FL.nl_t, FL.nl_o, FL.nl_0, FL.nl_c, FL.non_n, FL.non_i, FL.non_b, FL.non_s, FL.non_t, FL.non_l, FL.non_o, FL.borS_vv, FL.borS_oo, FL.borK_vv, FL.nList_w, FL.items_t, FL.items_l, FL.noT_l, FL.noT_t, FL.noT_o, FL.noT_i, FL.noT_b, FL.noT_s, FL.noT_n, FL.noT_h, FL.noT_0, FL.noT_c, FL.c_ft, FL.c_it, FL.c_if, FL.retOwn_w, FL.retOwnK_v, FL.lenT_l, FL.lenT_t, FL.sTryM_w, FL.tryMK_nx, FL.tryMK_rt, FL.tryMK_ex, FL.suiteN_nx, FL.suiteN_rt, FL.intsD_v, FL.ixHD_v, FL.sum_ints, FL.all_bls, FL.any_bls, FL.eMeth_w, FL.sHAug_w, FL.hsK_4, FL.nRep_w, FL.iZipL_w, FL.zipOf_w, FL.iRevF_w, $a,*] $l)
namespace FL
open PySem
def BQ (n m : Nat) (q : Rat) : Prop := q.num.natAbs ≤ n ∧ q.den ≤ m
theorem BQ.mono {n m n' m' : Nat} {q : Rat} (h : BQ n m q) (hn : n ≤ n') (hm : m ≤ m') : BQ n' m' q := ⟨Nat.le_trans h.1 hn, Nat.le_trans h.2 hm⟩
theorem bq_div {n m : Nat} {a b : Int} (hb : b ≠ 0) (ha : a.natAbs ≤ n) (hm : b.natAbs ≤ m) : BQ n m (Rat.divInt a b) := by
  unfold BQ
  rw [Rat.num_divInt, Rat.den_divInt, if_neg hb]
  refine ⟨Nat.le_trans ?_ ha, Nat.le_trans (Nat.div_le_self _ _) hm⟩
  rw [Int.natAbs_ediv_of_dvd (Int.dvd_trans (Int.gcd_dvd_right ..) (Int.dvd_mul_left ..)), Int.natAbs_mul, Int.natAbs_sign_of_ne_zero hb, Nat.one_mul]
  exact Nat.div_le_self _ _
theorem BQ.mul {n m n' m' : Nat} {x y : Rat} (h : BQ n m x) (g : BQ n' m' y) : BQ (n * n') (m * m') (x * y) := by
  rw [← mul_q]
  refine bq_div (den_mul0 x y) ?_ ?_
  · rw [Int.natAbs_mul]; exact Nat.mul_le_mul h.1 g.1
  · rw [Int.natAbs_mul, Int.natAbs_natCast, Int.natAbs_natCast]; exact Nat.mul_le_mul h.2 g.2
theorem BQ.add {n m n' m' : Nat} {x y : Rat} (h : BQ n m x) (g : BQ n' m' y) : BQ (n * m' + n' * m) (m * m') (x + y) := by
  rw [← add_q]
  refine bq_div (den_mul0 x y) ?_ ?_
  · refine Nat.le_trans (Int.natAbs_add_le _ _) ?_
    rw [Int.natAbs_mul, Int.natAbs_mul, Int.natAbs_natCast, Int.natAbs_natCast]
    exact Nat.add_le_add (Nat.mul_le_mul h.1 g.2) (Nat.mul_le_mul g.1 h.2)
  · rw [Int.natAbs_mul, Int.natAbs_natCast, Int.natAbs_natCast]; exact Nat.mul_le_mul h.2 g.2
theorem BQ.neg {n m : Nat} {x : Rat} (h : BQ n m x) : BQ n m (-x) := ⟨by rw [Rat.neg_num, Int.natAbs_neg]; exact h.1, h.2⟩
theorem BQ.sub {n m n' m' : Nat} {x y : Rat} (h : BQ n m x) (g : BQ n' m' y) : BQ (n * m' + n' * m) (m * m') (x - y) := by
  rw [Rat.sub_eq_add_neg]
  exact h.add g.neg
theorem BQ.sz {n m k : Nat} {x : Rat} (h : BQ n m x) (hn : n < 2 ^ k) (hm : m < 2 ^ k) : SzQ k x := by
  refine ⟨Nat.lt_of_le_of_lt h.1 hn, ?_⟩
  unfold Sz
  rw [Int.natAbs_natCast]
  exact Nat.lt_of_le_of_lt h.2 hm
theorem BQ.sm {n m : Nat} {x : Rat} (h : BQ n m x) (hn : n ≤ 1000000000000) (hm : m ≤ 1000000000000) : Sm x := by
  have h1 := h.1
  have h2 := h.2
  exact ⟨by omega, by omega, by omega⟩
section
variable {w : Wd}
end
end FL
namespace K49
open PySem FL
variable {w : Wd}
theorem mod_rg {x m : Int} (h : 0 < m) : 0 ≤ x.fmod m ∧ x.fmod m < m := ⟨Int.fmod_nonneg_of_pos x h, Int.fmod_lt_of_pos x h⟩
theorem sz_lt {k : Nat} {i : Int} (h0 : 0 ≤ i) (h : i < 2 ^ k) : Sz k i := by
  unfold Sz
  have e : ((2 ^ k : Nat) : Int) = 2 ^ k := by norm_cast
  omega
theorem whole_i (i : Int) : F_is_whole [.int i, .non, .non] w = .ok (.bl true) w := by
  unfold F_is_whole
  simp? only [Nat.reduceSub, Nat.reduceAdd, D.isNon]
theorem whole_l (i l : Int) : F_is_whole [.int i, .int l, .non] w = .ok (.bl (decide (l ≤ i))) w := by
  unfold F_is_whole
  by_cases h : i < l
  · simp? only [Nat.reduceSub, Nat.reduceAdd, D.isNon, h, decide_true, show ¬ l ≤ i by omega, decide_false]
  · simp? only [Nat.reduceSub, Nat.reduceAdd, D.isNon, h, decide_false, show l ≤ i by omega, decide_true]
theorem whole_lh (i l u : Int) : F_is_whole [.int i, .int l, .int u] w = .ok (.bl (decide (l ≤ i ∧ i ≤ u))) w := by
  unfold F_is_whole
  by_cases h : i < l
  · simp? only [Nat.reduceSub, Nat.reduceAdd, D.isNon, h, decide_true, show ¬ l ≤ i by omega, false_and, decide_false]
  · simp? only [Nat.reduceSub, Nat.reduceAdd, D.isNon, h, decide_false, show l ≤ i by omega, true_and]
theorem isr_2 (a b : Int) : F_is_ratio [.tup [.int a, .int b]] w = .ok (.bl (decide (1 ≤ b) && ((Nat.gcd a.natAbs b.natAbs : Nat) : Int) == 1)) w := by
  unfold F_is_ratio
  by_cases h : 1 ≤ b
  · simp? only [Nat.reduceSub, Nat.reduceAdd, whole_i, whole_l, h, decide_true, Int.cast_ofNat_Int, beq_self_eq_true, Bool.true_and]
  · simp? only [Nat.reduceSub, Nat.reduceAdd, whole_i, whole_l, h, decide_false, Int.cast_ofNat_Int, beq_self_eq_true, Bool.false_and]
theorem isr_q (q : Rat) : F_is_ratio [rq q] w = .ok (.bl true) w := by
  have := q.den_nz
  rw [isr_2, decide_eq_true (show 1 ≤ (q.den : Int) by omega), Int.natAbs_natCast, q.reduced]
  rfl
theorem lowest_q {a b : Int} {k : Nat} (hb0 : b ≠ 0) (hb : Sz k b) (hk : k < 9000) : F__lowest [.int a, .int b] w = .ok (rq (Rat.divInt a b)) w := by
  have g0 := gcd_ne (a := a) hb0
  have gs := gcd_sz (a := a) hb0 hb
  rw [← rq_low hb0]
  unfold F__lowest lowA lowB
  by_cases h : b < 0
  · simp? only [Nat.reduceSub, Nat.reduceAdd, h, if_true, Int.natAbs_neg, fdiv_int g0 gs hk]
  · simp? only [Nat.reduceSub, Nat.reduceAdd, h, if_false, fdiv_int g0 gs hk]
theorem minus_q {x y : Rat} {k l : Nat} (hx : SzQ k x) (hy : SzQ l y) (hk : k + l < 9000) : F_minus [rq x, rq y] w = .ok (rq (x - y)) w := by
  unfold F_minus
  simp? only [Nat.reduceSub, Nat.reduceAdd, mul_int hx.1 hy.2 (by omega), mul_int hy.1 hx.2 (by omega), mul_int hx.2 hy.2 (by omega), lowest_q (den_mul0 x y) (hx.2.mul hy.2) hk, sub_q]
theorem lt_q (x y : Rat) : decide (x.num * (y.den : Int) < y.num * (x.den : Int)) = decide (x < y) := by
  congr 1
  rw [Rat.lt_iff]
def cmpQ (x y : Rat) : Int := if x < y then -1 else if y < x then 1 else 0
theorem compare_q {x y : Rat} {k l : Nat} (hx : SzQ k x) (hy : SzQ l y) (hk : k + l < 9000) : F_compare [rq x, rq y] w = .ok (.int (cmpQ x y)) w := by
  unfold F_compare cmpQ
  have e1 := lt_q x y
  have e2 := lt_q y x
  by_cases h : x < y
  · rw [decide_eq_true h] at e1
    simp? only [Nat.reduceSub, Nat.reduceAdd, mul_int hx.1 hy.2 (by omega), mul_int hy.1 hx.2 (by omega), e1, h, if_true]
  · rw [decide_eq_false h] at e1
    by_cases g : y < x
    · rw [decide_eq_true g] at e2
      have e3 : decide (x.num * (y.den : Int) > y.num * (x.den : Int)) = true := e2
      simp? only [Nat.reduceSub, Nat.reduceAdd, mul_int hx.1 hy.2 (by omega), mul_int hy.1 hx.2 (by omega), e1, e3, h, g, if_true, if_false]
    · rw [decide_eq_false g] at e2
      have e3 : decide (x.num * (y.den : Int) > y.num * (x.den : Int)) = false := e2
      simp? only [Nat.reduceSub, Nat.reduceAdd, mul_int hx.1 hy.2 (by omega), mul_int hy.1 hx.2 (by omega), e1, e3, h, g, if_false]
def fl (q : Rat) : Int := q.num.fdiv q.den
end K49
namespace K49
open PySem FL
variable {w : Wd}
theorem gcdR : ∀ (m n a b : Nat) (s : Slot), b ≤ a → a * b < 2 ^ m → ∃ s', forL (gN 2) B__law_gcd_0 (rng n m) [.val (.int a), .val (.int b), s] w = .nx [.val (.int (Nat.gcd a b : Nat)), .val (.int 0), s'] w
  | 0, n, a, b, s, hba, h => by
    have hb : b = 0 := by
      have z : a * b = 0 := by omega
      rcases Nat.mul_eq_zero.mp z with q | q <;> omega
    subst hb
    refine ⟨s, ?_⟩
    rw [Nat.gcd_zero_right]
    rfl
  | m + 1, n, a, b, s, hba, h => by
    by_cases hb : b = 0
    · subst hb
      refine ⟨.val (.int n), ?_⟩
      rw [Nat.gcd_zero_right]
      show forL _ _ (D.int (n : Int) :: rng (n + 1) m) _ _ = _
      simp? only [Nat.reduceSub, Nat.reduceAdd, B__law_gcd_0_w, Int.cast_ofNat_Int, beq_self_eq_true]
    · have e : (((b : Nat) : Int) == 0) = false := by simp [hb]
      have hb' : ((b : Nat) : Int) ≠ 0 := by omega
      have hlt := Nat.mod_lt a (Nat.pos_of_ne_zero hb)
      have h2 : b * (a % b) < 2 ^ m := by
        have q : b + a % b ≤ a := by
          have := Nat.div_add_mod a b
          have d : 1 ≤ a / b := Nat.div_pos hba (Nat.pos_of_ne_zero hb)
          have : b * 1 ≤ b * (a / b) := Nat.mul_le_mul_left b d
          omega
        have : b * (2 * (a % b)) ≤ b * a := Nat.mul_le_mul_left b (by omega)
        have e2 : b * (2 * (a % b)) = 2 * (b * (a % b)) := by rw [Nat.mul_left_comm]
        rw [Nat.mul_comm a b, Nat.pow_succ] at h
        omega
      obtain ⟨s', e1⟩ := gcdR m (n + 1) b (a % b) (.val (.int n)) (by omega) h2
      refine ⟨s', ?_⟩
      show forL _ _ (D.int (n : Int) :: rng (n + 1) m) _ _ = _
      simp? only [Nat.reduceSub, Nat.reduceAdd, B__law_gcd_0_w, e, mod_int hb', show ((a : Int)).fmod (b : Int) = ((a % b : Nat) : Int) from by rw [Int.fmod_eq_emod_of_nonneg _ (by omega)]; rfl, e1]
      rw [Nat.gcd_comm b, ← Nat.gcd_rec, Nat.gcd_comm]
theorem range4k : rangeM (.int 0) (.int 4000) w = .ok (rng 0 4000) w := range0 4000 (by decide)
theorem lgcd_w (a : Int) {b : Int} {k : Nat} (hb : Sz k b) (hk : k < 1990) : F__law_gcd [.int a, .int b] w = .ok (.int (Nat.gcd a.natAbs b.natAbs : Nat)) w := by
  have e : ∀ i : Int, (if i < 0 then -i else i) = ((i.natAbs : Nat) : Int) := fun i => by split <;> omega
  have go : ∃ s', forL (gN 2) B__law_gcd_0 (rng 0 4000) [.val (.int (a.natAbs : Nat)), .val (.int (b.natAbs : Nat)), .none] w = .nx [.val (.int (Nat.gcd a.natAbs b.natAbs : Nat)), .val (.int 0), s'] w := by
    generalize a.natAbs = x
    have hy : b.natAbs < 2 ^ k := hb
    generalize b.natAbs = y at hy
    by_cases h0 : y = 0
    · subst h0
      refine ⟨.val (.int 0), ?_⟩
      rw [Nat.gcd_zero_right]
      show forL _ _ (D.int ((0 : Nat) : Int) :: rng (0 + 1) 3999) _ _ = _
      simp? only [Nat.reduceSub, Nat.reduceAdd, B__law_gcd_0_w, Int.cast_ofNat_Int, beq_self_eq_true]
    · have e0 : (((y : Nat) : Int) == 0) = false := by simp [h0]
      have hb' : ((y : Nat) : Int) ≠ 0 := by omega
      have hlt := Nat.mod_lt x (Nat.pos_of_ne_zero h0)
      have h2 : y * (x % y) < 2 ^ 3999 := by
        have p1 : y * (x % y) ≤ y * y := Nat.mul_le_mul_left y (by omega)
        have p2 : y * y ≤ 2 ^ k * 2 ^ k := Nat.mul_le_mul (by omega) (by omega)
        have p3 : 2 ^ k * 2 ^ k = 2 ^ (k + k) := (Nat.pow_add 2 k k).symm
        have p4 : 2 ^ (k + k) < 2 ^ 3999 := Nat.pow_lt_pow_right (by decide) (by omega)
        omega
      obtain ⟨s', e1⟩ := gcdR (w := w) 3999 1 y (x % y) (.val (.int ((0 : Nat) : Int))) (by omega) h2
      refine ⟨s', ?_⟩
      show forL _ _ (D.int ((0 : Nat) : Int) :: rng (0 + 1) 3999) _ _ = _
      simp? only [Nat.reduceSub, Nat.reduceAdd, B__law_gcd_0_w, e0, mod_int hb', show ((x : Int)).fmod (y : Int) = ((x % y : Nat) : Int) from by rw [Int.fmod_eq_emod_of_nonneg _ (by omega)]; rfl, e1]
      rw [Nat.gcd_comm y, ← Nat.gcd_rec, Nat.gcd_comm]
  obtain ⟨s', go⟩ := go
  unfold F__law_gcd
  simp? only [Nat.reduceSub, Nat.reduceAdd, e, range4k, go]
theorem ratio_q {a b : Int} {k : Nat} (hb0 : b ≠ 0) (hb : Sz k b) (hk : k < 1990) : F__law_ratio [.int a, .int b] w = .ok (rq (Rat.divInt a b)) w := by
  have g0 := gcd_ne (a := a) hb0
  have gs := gcd_sz (a := a) hb0 hb
  rw [← rq_low hb0]
  unfold F__law_ratio lowA lowB
  by_cases h : b < 0
  · simp? only [Nat.reduceSub, Nat.reduceAdd, lgcd_w (-a) hb.neg hk, Int.natAbs_neg, h, decide_true, if_true, fdiv_int g0 gs (show k < 9000 by omega)]
  · simp? only [Nat.reduceSub, Nat.reduceAdd, lgcd_w a hb hk, h, decide_false, if_false, fdiv_int g0 gs (show k < 9000 by omega)]
end K49
namespace GB
abbrev Lk := List (Nat × Nat × Int)
inductive Wk (L : Lk) : Nat → Nat → Int → Prop
  | nil (a : Nat) : Wk L a a 0
  | snoc {a b e : Nat} {w x : Int} : Wk L a b w → (b, e, x) ∈ L → Wk L a e (w + x)
variable {L L' : Lk} {a b c : Nat} {w x y : Int}
theorem Wk.trans (h : Wk L a b w) : ∀ {c : Nat} {x : Int}, Wk L b c x → Wk L a c (w + x) := by
  intro c x k
  induction k with
  | nil => rw [Int.add_zero]; exact h
  | snoc k m ih => rw [← Int.add_assoc]; exact ih.snoc m
theorem Wk.one (h : (a, b, x) ∈ L) : Wk L a b x := by
  have := (Wk.nil (L := L) a).snoc h
  rwa [Int.zero_add] at this
def Pot (L : Lk) (p : Nat → Int) : Prop := ∀ l ∈ L, p l.2.1 ≤ p l.1 + l.2.2
theorem Wk.pot {p : Nat → Int} (hp : Pot L p) (h : Wk L a b w) : p b ≤ p a + w := by
  induction h with
  | nil => omega
  | snoc k m ih => have := hp _ m; simp only at this; omega
theorem Wk.round {p : Nat → Int} (hp : Pot L p) (h : Wk L a a w) : 0 ≤ w := by
  have := h.pot hp
  omega
def In (L : Lk) (n : Nat) : Prop := ∀ l ∈ L, l.1 < n ∧ l.2.1 < n
inductive Pm (L : Lk) : Nat → Nat → Nat → Int → Prop
  | self (m a : Nat) : Pm L m a a 0
  | link {m a b : Nat} {x : Int} : (a, b, x) ∈ L → Pm L m a b x
  | up {m a b : Nat} {w : Int} : Pm L m a b w → Pm L (m + 1) a b w
  | via {m a b : Nat} {w x : Int} : Pm L m a m w → Pm L m m b x → Pm L (m + 1) a b (w + x)
theorem Pm.wk {m : Nat} (h : Pm L m a b w) : Wk L a b w := by
  induction h with
  | self => exact Wk.nil _
  | link h => exact Wk.one h
  | up _ ih => exact ih
  | via _ _ i1 i2 => exact i1.trans i2
theorem Pm.case {m : Nat} (h : Pm L (m + 1) a b w) : Pm L m a b w ∨ ∃ x y, Pm L m a m x ∧ Pm L m m b y ∧ w = x + y := by
  generalize e : m + 1 = k at h
  cases h with
  | self => exact .inl (.self ..)
  | link h => exact .inl (.link h)
  | up h => cases e; exact .inl h
  | via h1 h2 => cases e; exact .inr ⟨_, _, h1, h2, rfl⟩
theorem Pm.comp {p : Nat → Int} (hp : Pot L p) : ∀ (m : Nat) {a b c : Nat} {w x : Int}, c < m → Pm L m a c w → Pm L m c b x → ∃ y, y ≤ w + x ∧ Pm L m a b y
  | 0, a, b, c, w, x, h, _, _ => absurd h (Nat.not_lt_zero c)
  | m + 1, a, b, c, w, x, h, k1, k2 => by
    by_cases e : c = m
    · subst e
      have f1 : ∃ w', w' ≤ w ∧ Pm L c a c w' := by
        rcases k1.case with h | ⟨x1, y1, h1, h2, rfl⟩
        · exact ⟨w, by omega, h⟩
        · have := h2.wk.round hp
          exact ⟨x1, by omega, h1⟩
      have f2 : ∃ x', x' ≤ x ∧ Pm L c c b x' := by
        rcases k2.case with h | ⟨x1, y1, h1, h2, rfl⟩
        · exact ⟨x, by omega, h⟩
        · have := h1.wk.round hp
          exact ⟨y1, by omega, h2⟩
      obtain ⟨w', l1, g1⟩ := f1
      obtain ⟨x', l2, g2⟩ := f2
      exact ⟨w' + x', by omega, .via g1 g2⟩
    · have hc : c < m := by omega
      rcases k1.case with h1 | ⟨x1, y1, h1, h2, rfl⟩
      · rcases k2.case with g1 | ⟨x2, y2, g1, g2, rfl⟩
        · obtain ⟨y, l, r⟩ := Pm.comp hp m hc h1 g1
          exact ⟨y, l, r.up⟩
        · obtain ⟨y, l, r⟩ := Pm.comp hp m hc h1 g1
          exact ⟨y + y2, by omega, .via r g2⟩
      · rcases k2.case with g1 | ⟨x2, y2, g1, g2, rfl⟩
        · obtain ⟨y, l, r⟩ := Pm.comp hp m hc h2 g1
          exact ⟨x1 + y, by omega, .via h1 r⟩
        · have := (h2.wk.trans g1.wk).round hp
          exact ⟨x1 + y2, by omega, .via h1 g2⟩
theorem Wk.pm {p : Nat → Int} (hp : Pot L p) {n : Nat} (hn : In L n) (h : Wk L a b w) : ∃ w', w' ≤ w ∧ Pm L n a b w' := by
  induction h with
  | nil => exact ⟨0, by omega, .self ..⟩
  | snoc k m ih =>
    obtain ⟨w', l, r⟩ := ih
    obtain ⟨y, l2, r2⟩ := Pm.comp hp n (hn _ m).1 r (.link m)
    exact ⟨y, by omega, r2⟩
structure IsD (L : Lk) (a b : Nat) (o : Option Int) : Prop where
  way : ∀ d, o = some d → Wk L a b d
  low : ∀ w, Wk L a b w → ∃ d, o = some d ∧ d ≤ w
theorem IsD.one {o o' : Option Int} (h : IsD L a b o) (k : IsD L a b o') : o = o' := by
  cases e : o with
  | none =>
    cases e' : o' with
    | none => rfl
    | some d =>
      obtain ⟨x, q, _⟩ := h.low d (k.way d e')
      rw [e] at q; cases q
  | some d =>
    obtain ⟨x, q, l⟩ := k.low d (h.way d e)
    obtain ⟨y, q2, l2⟩ := h.low x (k.way x q)
    rw [e] at q2; cases q2
    rw [q, show x = d by omega]
abbrev Tb := Nat → Nat → Option Int
def putT (T : Tb) (a b : Nat) (v : Int) : Tb := fun i j => if i = a ∧ j = b then some v else T i j
def lessT (T : Tb) (a b : Nat) (v : Int) : Bool := match T a b with
  | none => true
  | some z => decide (v < z)
def minT (T : Tb) (a b : Nat) (v : Int) : Tb := if lessT T a b v = true then putT T a b v else T
def Mono (T T' : Tb) : Prop := ∀ a b d, T a b = some d → ∃ d', T' a b = some d' ∧ d' ≤ d
theorem Mono.refl (T : Tb) : Mono T T := fun a b d e => ⟨d, e, by omega⟩
theorem Mono.trans {T T' T'' : Tb} (h : Mono T T') (k : Mono T' T'') : Mono T T'' := fun a b d e => by
  obtain ⟨d', e', l⟩ := h a b d e
  obtain ⟨d'', e'', l'⟩ := k a b d' e'
  exact ⟨d'', e'', by omega⟩
theorem minT_mono {T : Tb} {v : Int} : Mono T (minT T a b v) := fun i j d e => by
  unfold minT
  by_cases h : lessT T a b v = true
  · rw [if_pos h]
    by_cases k : i = a ∧ j = b
    · obtain ⟨rfl, rfl⟩ := k
      unfold lessT at h
      rw [e] at h
      exact ⟨v, by unfold putT; rw [if_pos ⟨rfl, rfl⟩], by have := of_decide_eq_true h; omega⟩
    · exact ⟨d, by unfold putT; rw [if_neg k]; exact e, by omega⟩
  · rw [if_neg h]
    exact ⟨d, e, by omega⟩
theorem minT_le {T : Tb} {v : Int} : ∃ d, minT T a b v a b = some d ∧ d ≤ v := by
  unfold minT
  by_cases h : lessT T a b v = true
  · rw [if_pos h]
    exact ⟨v, by unfold putT; rw [if_pos ⟨rfl, rfl⟩], by omega⟩
  · rw [if_neg h]
    unfold lessT at h
    cases e : T a b with
    | none => rw [e] at h; exact absurd rfl h
    | some z => rw [e] at h; exact ⟨z, rfl, by have := of_decide_eq_false (Bool.eq_false_iff.mpr h); omega⟩
def Snd (L : Lk) (T : Tb) : Prop := ∀ a b d, T a b = some d → Wk L a b d
theorem minT_snd {T : Tb} {v : Int} (h : Snd L T) (k : Wk L a b v) : Snd L (minT T a b v) := fun i j d e => by
  unfold minT at e
  split at e
  · unfold putT at e
    split at e
    · rename_i z
      obtain ⟨rfl, rfl⟩ := z
      cases e; exact k
    · exact h i j d e
  · exact h i j d e
def T0 : Tb := fun a b => if a = b then some 0 else none
def linkT (T : Tb) (l : Nat × Nat × Int) : Tb := minT T l.1 l.2.1 l.2.2
def initT (L : Lk) : Tb := L.foldl linkT T0
theorem init_mono : ∀ (l : Lk) (T : Tb), Mono T (l.foldl linkT T)
  | [], T => Mono.refl T
  | x :: l, T => (minT_mono (T := T) (a := x.1) (b := x.2.1) (v := x.2.2)).trans (init_mono l (linkT T x))
theorem init_snd : ∀ (l : Lk) (T : Tb), (∀ x ∈ l, x ∈ L) → Snd L T → Snd L (l.foldl linkT T)
  | [], T, _, h => h
  | x :: l, T, hm, h => init_snd l (linkT T x) (fun y hy => hm y (List.mem_cons_of_mem _ hy)) (minT_snd h (Wk.one (hm x (List.mem_cons_self ..))))
theorem init_link : ∀ (l : Lk) (T : Tb), ∀ x ∈ l, ∃ d, (l.foldl linkT T) x.1 x.2.1 = some d ∧ d ≤ x.2.2
  | y :: l, T, x, hx => by
    rcases List.mem_cons.mp hx with rfl | hx
    · obtain ⟨d, e, k⟩ := minT_le (T := T) (a := x.1) (b := x.2.1) (v := x.2.2)
      obtain ⟨d', e', k'⟩ := init_mono l (linkT T x) x.1 x.2.1 d e
      exact ⟨d', e', by omega⟩
    · exact init_link l (linkT T y) x hx
structure Tab (L : Lk) (m : Nat) (T : Tb) : Prop where
  snd : Snd L T
  low : ∀ a b w, Pm L m a b w → ∃ d, T a b = some d ∧ d ≤ w
theorem init_tab : Tab L 0 (initT L) := by
  refine ⟨init_snd L T0 (fun x h => h) (fun a b d e => ?_), fun a b w h => ?_⟩
  · unfold T0 at e
    split at e
    · rename_i z; cases e; subst z; exact Wk.nil _
    · cases e
  · generalize e : 0 = m at h
    cases h with
    | self => exact init_mono L T0 a a 0 (by unfold T0; rw [if_pos rfl])
    | link h => exact init_link L T0 _ h
    | up => cases e
    | via => cases e
def stT (m a b : Nat) (T : Tb) : Tb := match T a m, T m b with
  | some x, some y => minT T a b (x + y)
  | _, _ => T
theorem stT_mono {m : Nat} {T : Tb} : Mono T (stT m a b T) := by
  unfold stT
  split
  · exact minT_mono
  · exact Mono.refl _
theorem stT_snd {m : Nat} {T : Tb} (h : Snd L T) : Snd L (stT m a b T) := by
  unfold stT
  split
  · rename_i x y e1 e2
    exact minT_snd h ((h _ _ _ e1).trans (h _ _ _ e2))
  · exact h
def rowT (m a : Nat) (bs : List Nat) (T : Tb) : Tb := bs.foldl (fun T b => stT m a b T) T
theorem rowT_mono {m : Nat} : ∀ (bs : List Nat) (T : Tb), Mono T (rowT m a bs T)
  | [], T => Mono.refl T
  | b :: bs, T => stT_mono.trans (rowT_mono bs _)
theorem rowT_snd {m : Nat} : ∀ (bs : List Nat) (T : Tb), Snd L T → Snd L (rowT m a bs T)
  | [], T, h => h
  | b :: bs, T, h => rowT_snd bs _ (stT_snd h)
theorem rowT_low {m : Nat} {x y : Int} : ∀ (bs : List Nat) (T : Tb), (∃ d, T a m = some d ∧ d ≤ x) → (∃ d, T m b = some d ∧ d ≤ y) → b ∈ bs → ∃ d, rowT m a bs T a b = some d ∧ d ≤ x + y
  | c :: bs, T, h1, h2, hb => by
    obtain ⟨d1, e1, l1⟩ := h1
    obtain ⟨d2, e2, l2⟩ := h2
    rcases List.mem_cons.mp hb with rfl | hb
    · have : ∃ d, stT m a b T a b = some d ∧ d ≤ x + y := by
        unfold stT
        rw [e1, e2]
        obtain ⟨d, e, l⟩ := minT_le (T := T) (a := a) (b := b) (v := d1 + d2)
        exact ⟨d, e, by omega⟩
      obtain ⟨d, e, l⟩ := this
      obtain ⟨d', e', l'⟩ := rowT_mono bs _ a b d e
      exact ⟨d', e', by omega⟩
    · obtain ⟨d1', e1', l1'⟩ := stT_mono (a := a) (b := c) (m := m) a m d1 e1
      obtain ⟨d2', e2', l2'⟩ := stT_mono (a := a) (b := c) (m := m) m b d2 e2
      exact rowT_low bs _ ⟨d1', e1', by omega⟩ ⟨d2', e2', by omega⟩ hb
def allT (m : Nat) (as bs : List Nat) (T : Tb) : Tb := as.foldl (fun T a => rowT m a bs T) T
theorem allT_mono {m : Nat} {bs : List Nat} : ∀ (as : List Nat) (T : Tb), Mono T (allT m as bs T)
  | [], T => Mono.refl T
  | a :: as, T => (rowT_mono bs T).trans (allT_mono as _)
theorem allT_snd {m : Nat} {bs : List Nat} : ∀ (as : List Nat) (T : Tb), Snd L T → Snd L (allT m as bs T)
  | [], T, h => h
  | a :: as, T, h => allT_snd as _ (rowT_snd bs T h)
theorem allT_low {m : Nat} {x y : Int} {bs : List Nat} (hb : b ∈ bs) : ∀ (as : List Nat) (T : Tb), (∃ d, T a m = some d ∧ d ≤ x) → (∃ d, T m b = some d ∧ d ≤ y) → a ∈ as → ∃ d, allT m as bs T a b = some d ∧ d ≤ x + y
  | c :: as, T, h1, h2, ha => by
    rcases List.mem_cons.mp ha with rfl | ha
    · obtain ⟨d, e, l⟩ := rowT_low bs T h1 h2 hb
      obtain ⟨d', e', l'⟩ := allT_mono (bs := bs) (m := m) as _ a b d e
      exact ⟨d', e', by omega⟩
    · obtain ⟨d1, e1, l1⟩ := h1
      obtain ⟨d2, e2, l2⟩ := h2
      obtain ⟨d1', e1', l1'⟩ := rowT_mono (a := c) (m := m) bs T a m d1 e1
      obtain ⟨d2', e2', l2'⟩ := rowT_mono (a := c) (m := m) bs T m b d2 e2
      exact allT_low hb as _ ⟨d1', e1', by omega⟩ ⟨d2', e2', by omega⟩ ha
theorem phase {n m : Nat} {T : Tb} {p : Nat → Int} (hp : Pot L p) (h : Tab L m T) (hn : In L n) : Tab L (m + 1) (allT m (List.range n) (List.range n) T) := by
  refine ⟨allT_snd _ _ h.snd, fun a b w k => ?_⟩
  rcases k.case with k | ⟨x, y, k1, k2, rfl⟩
  · obtain ⟨d, e, l⟩ := h.low a b w k
    obtain ⟨d', e', l'⟩ := allT_mono (bs := List.range n) (m := m) (List.range n) T a b d e
    exact ⟨d', e', by omega⟩
  · by_cases ab : a < n ∧ b < n
    · exact allT_low (List.mem_range.mpr ab.2) _ _ (h.low a m x k1) (h.low m b y k2) (List.mem_range.mpr ab.1)
    · -- a way beyond all marks stays where it is
      have w := k1.wk.trans k2.wk
      have e : a = b := by
        have : ∀ {a b : Nat} {w : Int}, Wk L a b w → a = b ∨ a < n ∧ b < n := by
          intro a b w h
          induction h with
          | nil => exact .inl rfl
          | snoc k m ih =>
            have := hn _ m
            rcases ih with rfl | ⟨h1, h2⟩
            · exact .inr this
            · exact .inr ⟨h1, this.2⟩
        rcases this w with e | z
        · exact e
        · exact absurd z ab
      subst e
      have nn := w.round hp
      obtain ⟨d, e, l⟩ := h.low a a 0 (.self ..)
      obtain ⟨d', e', l'⟩ := allT_mono (bs := List.range n) (m := m) (List.range n) T a a d e
      exact ⟨d', e', by omega⟩
def fwT (n : Nat) (ms : List Nat) (T : Tb) : Tb := ms.foldl (fun T m => allT m (List.range n) (List.range n) T) T
theorem fw_tab {n : Nat} {p : Nat → Int} (hp : Pot L p) (hn : In L n) : ∀ m : Nat, Tab L m (fwT n (List.range m) (initT L))
  | 0 => init_tab
  | m + 1 => by
    unfold fwT
    rw [List.range_succ, List.foldl_append]
    exact phase hp (fw_tab hp hn m) hn
def tabL (n : Nat) (L : Lk) : Tb := fwT n (List.range n) (initT L)
theorem tab_is {n : Nat} {p : Nat → Int} (hp : Pot L p) (hn : In L n) (a b : Nat) : IsD L a b (tabL n L a b) := by
  have t := fw_tab hp hn n
  refine ⟨fun d e => t.snd a b d e, fun w h => ?_⟩
  obtain ⟨w', l, k⟩ := h.pm hp hn
  obtain ⟨d, e, l'⟩ := t.low a b w' k
  exact ⟨d, e, by omega⟩
end GB
namespace GB
abbrev Ams := Nat → Option Int
variable {L : Lk} {A0 A A' : Ams}
structure IsS (L : Lk) (A0 : Ams) (v : Nat) (o : Option Int) : Prop where
  way : ∀ d, o = some d → ∃ u a, A0 u = some a ∧ Wk L u v (d - a)
  low : ∀ u a w, A0 u = some a → Wk L u v w → ∃ d, o = some d ∧ d ≤ a + w
theorem isS_of {s v : Nat} {o : Option Int} (h : IsD L s v o) : IsS L (fun u => if u = s then some 0 else none) v o := by
  refine ⟨fun d e => ⟨s, 0, if_pos rfl, by rw [Int.sub_zero]; exact h.way d e⟩, fun u a w e k => ?_⟩
  by_cases z : u = s
  · rw [if_pos z] at e
    subst z; cases e
    obtain ⟨d, e, l⟩ := h.low w k
    exact ⟨d, e, by omega⟩
  · rw [if_neg z] at e; cases e
theorem isS_ex {n : Nat} {p : Nat → Int} (hp : Pot L p) (hn : In L n) (h0 : ∀ u, n ≤ u → A0 u = none) (v : Nat) : ∃ o, IsS L A0 v o := by
  have : ∀ k : Nat, ∃ o : Option Int, (∀ d, o = some d → ∃ u a, A0 u = some a ∧ Wk L u v (d - a)) ∧ ∀ u a w, u < k → A0 u = some a → Wk L u v w → ∃ d, o = some d ∧ d ≤ a + w := by
    intro k
    induction k with
    | zero => exact ⟨none, (fun d e => nomatch e), fun u a w h => absurd h (Nat.not_lt_zero u)⟩
    | succ k ih =>
      obtain ⟨o, h1, h2⟩ := ih
      have t := tab_is hp hn k v
      cases e0 : A0 k with
      | none =>
        refine ⟨o, h1, fun u a w hu e kk => ?_⟩
        by_cases z : u = k
        · subst z; rw [e0] at e; cases e
        · exact h2 u a w (by omega) e kk
      | some a0 =>
        cases e1 : tabL n L k v with
        | none =>
          refine ⟨o, h1, fun u a w hu e kk => ?_⟩
          by_cases z : u = k
          · subst z
            obtain ⟨d, q, _⟩ := t.low w kk
            rw [e1] at q; cases q
          · exact h2 u a w (by omega) e kk
        | some y =>
          have wy := t.way y e1
          cases o with
          | none =>
            refine ⟨some (a0 + y), fun d e => ?_, fun u a w hu e kk => ?_⟩
            · cases e
              exact ⟨k, a0, e0, by rw [show a0 + y - a0 = y by omega]; exact wy⟩
            · by_cases z : u = k
              · subst z; rw [e0] at e; cases e
                obtain ⟨d, q, l⟩ := t.low w kk
                rw [e1] at q; cases q
                exact ⟨_, rfl, by omega⟩
              · obtain ⟨d, q, _⟩ := h2 u a w (by omega) e kk
                cases q
          | some o =>
            by_cases c : o ≤ a0 + y
            · refine ⟨some o, h1, fun u a w hu e kk => ?_⟩
              by_cases z : u = k
              · subst z; rw [e0] at e; cases e
                obtain ⟨d, q, l⟩ := t.low w kk
                rw [e1] at q; cases q
                exact ⟨_, rfl, by omega⟩
              · exact h2 u a w (by omega) e kk
            · refine ⟨some (a0 + y), fun d e => ?_, fun u a w hu e kk => ?_⟩
              · cases e
                exact ⟨k, a0, e0, by rw [show a0 + y - a0 = y by omega]; exact wy⟩
              · by_cases z : u = k
                · subst z; rw [e0] at e; cases e
                  obtain ⟨d, q, l⟩ := t.low w kk
                  rw [e1] at q; cases q
                  exact ⟨_, rfl, by omega⟩
                · obtain ⟨d, q, l⟩ := h2 u a w (by omega) e kk
                  cases q
                  exact ⟨_, rfl, by omega⟩
  obtain ⟨o, h1, h2⟩ := this n
  refine ⟨o, h1, fun u a w e k => ?_⟩
  by_cases z : u < n
  · exact h2 u a w z e k
  · rw [h0 u (by omega)] at e; cases e
theorem IsS.one {v : Nat} {o o' : Option Int} (h : IsS L A0 v o) (k : IsS L A0 v o') : o = o' := by
  cases e : o with
  | none =>
    cases e' : o' with
    | none => rfl
    | some d =>
      obtain ⟨u, a, h1, h2⟩ := k.way d e'
      obtain ⟨x, q, _⟩ := h.low u a _ h1 h2
      rw [e] at q; cases q
  | some d =>
    obtain ⟨u, a, h1, h2⟩ := h.way d e
    obtain ⟨x, q, l⟩ := k.low u a _ h1 h2
    obtain ⟨u', a', h3, h4⟩ := k.way x q
    obtain ⟨y, q2, l2⟩ := h.low u' a' _ h3 h4
    rw [e] at q2; cases q2
    rw [q, show x = d by omega]
structure Stt where
  A : Ams
  la : Nat → Option Nat
  f : Option Nat
def lessA (A : Ams) (e : Nat) (v : Int) : Bool := match A e with
  | none => true
  | some z => decide (v < z)
def rel1 (s : Stt) (i : Nat) (l : Nat × Nat × Int) : Stt := match s.A l.1 with
  | none => s
  | some y => if lessA s.A l.2.1 (y + l.2.2) = true then ⟨fun v => if v = l.2.1 then some (y + l.2.2) else s.A v, fun v => if v = l.2.1 then some i else s.la v, some l.2.1⟩ else s
def pass : Nat → Lk → Stt → Stt
  | _, [], s => s
  | i, l :: ls, s => pass (i + 1) ls (rel1 s i l)
def rounds (L : Lk) : Nat → Stt → Stt
  | 0, s => s
  | r + 1, s => if (pass 0 L { s with f := none }).f = none then pass 0 L { s with f := none } else rounds L r (pass 0 L { s with f := none })
def LeA (A' A : Ams) : Prop := ∀ v d, A v = some d → ∃ d', A' v = some d' ∧ d' ≤ d
theorem LeA.refl (A : Ams) : LeA A A := fun v d e => ⟨d, e, by omega⟩
theorem LeA.trans {B : Ams} (h : LeA B A') (k : LeA A' A) : LeA B A := fun v d e => by
  obtain ⟨d', e', l⟩ := k v d e
  obtain ⟨d'', e'', l'⟩ := h v d' e'
  exact ⟨d'', e'', by omega⟩
def SndA (L : Lk) (A0 A : Ams) : Prop := ∀ v d, A v = some d → ∃ u a, A0 u = some a ∧ Wk L u v (d - a)
theorem rel1_le {s : Stt} {i : Nat} {l : Nat × Nat × Int} : LeA (rel1 s i l).A s.A := by
  unfold rel1
  split
  · exact LeA.refl _
  · rename_i y e
    split
    · rename_i c
      intro v d ev
      by_cases z : v = l.2.1
      · subst z
        unfold lessA at c
        rw [ev] at c
        exact ⟨y + l.2.2, if_pos rfl, by have := of_decide_eq_true c; omega⟩
      · exact ⟨d, (if_neg z).trans ev, by omega⟩
    · exact LeA.refl _
theorem rel1_snd {s : Stt} {i : Nat} {l : Nat × Nat × Int} (hm : l ∈ L) (h : SndA L A0 s.A) : SndA L A0 (rel1 s i l).A := by
  unfold rel1
  split
  · exact h
  · rename_i y e
    split
    · intro v d ev
      simp only at ev
      split at ev
      · rename_i z
        subst z
        cases ev
        obtain ⟨u, a, h1, h2⟩ := h _ _ e
        refine ⟨u, a, h1, ?_⟩
        have := h2.snoc (e := l.2.1) (x := l.2.2) hm
        rw [show y + l.2.2 - a = y - a + l.2.2 by omega]
        exact this
      · exact h v d ev
    · exact h
theorem rel1_low {s : Stt} {i : Nat} {l : Nat × Nat × Int} {y : Int} (e : s.A l.1 = some y) : ∃ d, (rel1 s i l).A l.2.1 = some d ∧ d ≤ y + l.2.2 := by
  unfold rel1
  rw [e]
  simp only
  split
  · exact ⟨_, if_pos rfl, by omega⟩
  · rename_i c
    unfold lessA at c
    cases e2 : s.A l.2.1 with
    | none => rw [e2] at c; exact absurd rfl c
    | some z => rw [e2] at c; exact ⟨z, rfl, by have := of_decide_eq_false (Bool.eq_false_iff.mpr c); omega⟩
theorem rel1_f {s : Stt} {i : Nat} {l : Nat × Nat × Int} (h : (rel1 s i l).f = none) : (rel1 s i l) = s := by
  unfold rel1 at h ⊢
  split
  · rfl
  · rename_i y e
    rw [e] at h
    simp only at h
    split
    · rename_i c; rw [if_pos c] at h; cases h
    · rfl
theorem pass_le : ∀ (ls : Lk) (i : Nat) (s : Stt), LeA (pass i ls s).A s.A
  | [], i, s => LeA.refl _
  | l :: ls, i, s => (pass_le ls (i + 1) _).trans rel1_le
theorem pass_snd : ∀ (ls : Lk) (i : Nat) (s : Stt), (∀ l ∈ ls, l ∈ L) → SndA L A0 s.A → SndA L A0 (pass i ls s).A
  | [], i, s, _, h => h
  | l :: ls, i, s, hm, h => pass_snd ls (i + 1) _ (fun x hx => hm x (List.mem_cons_of_mem _ hx)) (rel1_snd (hm l (List.mem_cons_self ..)) h)
theorem pass_low : ∀ (ls : Lk) (i : Nat) (s : Stt) (l : Nat × Nat × Int) (y : Int), l ∈ ls → s.A l.1 = some y → ∃ d, (pass i ls s).A l.2.1 = some d ∧ d ≤ y + l.2.2
  | k :: ls, i, s, l, y, hl, e => by
    rcases List.mem_cons.mp hl with rfl | hl
    · obtain ⟨d, e1, l1⟩ := rel1_low (i := i) e
      obtain ⟨d', e2, l2⟩ := pass_le ls (i + 1) (rel1 s i l) _ d e1
      exact ⟨d', e2, by omega⟩
    · obtain ⟨y', e1, l1⟩ := rel1_le (s := s) (i := i) (l := k) _ y e
      obtain ⟨d, e2, l2⟩ := pass_low ls (i + 1) _ l y' hl e1
      exact ⟨d, e2, by omega⟩
theorem pass_f : ∀ (ls : Lk) (i : Nat) (s : Stt), (pass i ls s).f = none → pass i ls s = s
  | [], i, s, _ => rfl
  | l :: ls, i, s, h => by
    have e := pass_f ls (i + 1) (rel1 s i l) h
    have : (rel1 s i l).f = none := by
      rw [← e]; exact h
    show pass (i + 1) ls (rel1 s i l) = s
    rw [e]; exact rel1_f this
def OkLa (m : Nat) (s : Stt) : Prop := ∀ v i, s.la v = some i → i < m
theorem pass_la {m : Nat} : ∀ (ls : Lk) (i : Nat) (s : Stt), i + ls.length ≤ m → OkLa m s → OkLa m (pass i ls s)
  | [], i, s, _, h => h
  | l :: ls, i, s, hi, h => by
    rw [List.length_cons] at hi
    refine pass_la ls (i + 1) _ (by omega) fun v j e => ?_
    unfold rel1 at e
    split at e
    · exact h v j e
    · split at e
      · simp only at e
        split at e
        · cases e; omega
        · exact h v j e
      · exact h v j e
section
variable {D : Ams} {n : Nat}
theorem settle (hD : ∀ v, IsS L A0 v (D v)) (s : SndA L A0 A) {v : Nat} {d : Int} (e : A v = some d) : ∃ d', D v = some d' ∧ d' ≤ d := by
  obtain ⟨u, a, h1, h2⟩ := s v d e
  obtain ⟨d', q, l⟩ := (hD v).low u a _ h1 h2
  exact ⟨d', q, by omega⟩
theorem settled_stays (hD : ∀ v, IsS L A0 v (D v)) (s : SndA L A0 A') (le : LeA A' A) {v : Nat} (e : A v = D v) : A' v = D v := by
  cases q : D v with
  | none =>
    cases q' : A' v with
    | none => rfl
    | some d =>
      obtain ⟨d', z, _⟩ := settle hD s q'
      rw [q] at z; cases z
  | some d =>
    rw [q] at e
    obtain ⟨d', e', l⟩ := le v d e
    obtain ⟨x, z, l'⟩ := settle hD s e'
    rw [q] at z; cases z
    rw [e', show d' = d by omega]
theorem front (hD : ∀ v, IsS L A0 v (D v)) (s : SndA L A0 A) (le : LeA A A0) {v : Nat} (ne : A v ≠ D v) : ∃ b e x y, (b, e, x) ∈ L ∧ A b = some y ∧ D e = some (y + x) ∧ A e ≠ D e := by
  cases q : D v with
  | none =>
    exfalso
    cases q' : A v with
    | none => rw [q, q'] at ne; exact ne rfl
    | some d =>
      obtain ⟨d', z, _⟩ := settle hD s q'
      rw [q] at z; cases z
  | some d =>
    obtain ⟨u, a, h1, h2⟩ := (hD v).way d q
    -- the start of the way is settled
    obtain ⟨a', qa, la⟩ := (hD u).low u a 0 h1 (Wk.nil u)
    obtain ⟨u', a'', h3, h4⟩ := (hD u).way a' qa
    obtain ⟨d', qd, ld⟩ := (hD v).low u' a'' _ h3 (h4.trans h2)
    rw [q] at qd; cases qd
    have ea : a' = a := by omega
    subst ea
    obtain ⟨x, ex, lx⟩ := le u a' h1
    obtain ⟨z, ez, lz⟩ := settle hD s ex
    rw [qa] at ez; cases ez
    have exx : x = a' := by omega
    subst exx
    have go : ∀ {v : Nat} {w : Int}, Wk L u v w → D v = some (x + w) → A v ≠ D v → ∃ b e c y, (b, e, c) ∈ L ∧ A b = some y ∧ D e = some (y + c) ∧ A e ≠ D e := by
      intro v w k
      induction k with
      | nil =>
        intro e1 e2
        exact absurd (by rw [ex, qa]) e2
      | @snoc b e w c k m ih =>
        intro e1 e2
        obtain ⟨z, ez, lz⟩ := (hD b).low u x w h1 k
        obtain ⟨u1, a1, h5, h6⟩ := (hD b).way z ez
        obtain ⟨d2, qd2, ld2⟩ := (hD e).low u1 a1 _ h5 (h6.snoc m)
        rw [e1] at qd2; cases qd2
        have ez' : z = x + w := by omega
        by_cases st : A b = D b
        · exact ⟨b, e, c, z, m, by rw [st, ez], by rw [e1, ez', Int.add_assoc], e2⟩
        · exact ih (by rw [ez, ez']) st
    refine go h2 ?_ ne
    rw [q, show x + (d - x) = d by omega]
def cntB (P : Nat → Bool) (l : List Nat) : Nat := (l.filter P).length
theorem cnt_le {P Q : Nat → Bool} (h : ∀ v, P v = true → Q v = true) : ∀ l : List Nat, cntB P l ≤ cntB Q l
  | [] => Nat.le_refl _
  | x :: l => by
    have ih := cnt_le h l
    unfold cntB at *
    rw [List.filter_cons, List.filter_cons]
    by_cases p : P x = true
    · rw [if_pos p, if_pos (h x p), List.length_cons, List.length_cons]; omega
    · rw [if_neg p]
      split
      · rw [List.length_cons]; omega
      · exact ih
theorem cnt_lt {P Q : Nat → Bool} (h : ∀ v, P v = true → Q v = true) {e : Nat} (h1 : P e = false) (h2 : Q e = true) : ∀ l : List Nat, e ∈ l → cntB P l + 1 ≤ cntB Q l
  | x :: l, he => by
    have ih0 := cnt_le h l
    unfold cntB at *
    rw [List.filter_cons, List.filter_cons]
    rcases List.mem_cons.mp he with rfl | he
    · rw [if_neg (by rw [h1]; exact Bool.false_ne_true), if_pos h2, List.length_cons]; omega
    · have ih := cnt_lt h h1 h2 l he
      unfold cntB at ih
      by_cases p : P x = true
      · rw [if_pos p, if_pos (h x p), List.length_cons, List.length_cons]; omega
      · rw [if_neg p]
        split
        · rw [List.length_cons]; omega
        · exact ih
def stl (D A : Ams) (n : Nat) : Nat := cntB (fun v => decide (A v = D v)) (List.range n)
theorem stl_le : stl D A n ≤ n := by
  unfold stl cntB
  exact Nat.le_trans (List.length_filter_le ..) (by rw [List.length_range]; exact Nat.le_refl _)
theorem pass_grow (hD : ∀ v, IsS L A0 v (D v)) (hn : In L n) {s : Stt} (sn : SndA L A0 s.A) (le : LeA s.A A0) {v : Nat} (ne : s.A v ≠ D v) : stl D s.A n + 1 ≤ stl D (pass 0 L s).A n := by
  obtain ⟨b, e, x, y, m, h1, h2, h3⟩ := front hD sn le ne
  have sn' := pass_snd (A0 := A0) L 0 s (fun _ h => h) sn
  have le' := pass_le L 0 s
  obtain ⟨d, e1, l1⟩ := pass_low L 0 s (b, e, x) y m h1
  obtain ⟨d', e2, l2⟩ := settle hD sn' e1
  rw [h2] at e2; cases e2
  refine cnt_lt (fun v hv => ?_) (decide_eq_false h3) (decide_eq_true ?_) _ (List.mem_range.mpr (hn _ m).2)
  · have := of_decide_eq_true hv
    exact decide_eq_true (settled_stays hD sn' le' this)
  · simp only at e1 l1
    rw [e1, h2, show d = y + x by omega]
theorem rounds_ok (hD : ∀ v, IsS L A0 v (D v)) (hn : In L n) : ∀ (r : Nat) (s : Stt), 1 ≤ r → SndA L A0 s.A → LeA s.A A0 → ((∀ v, s.A v = D v) ∨ n + 1 ≤ stl D s.A n + r) → (rounds L r s).f = none ∧ ∀ v, (rounds L r s).A v = D v
  | r + 1, s, _, sn, le, h => by
    have sn' := pass_snd (A0 := A0) L 0 { s with f := none } (fun _ h => h) sn
    have le' := pass_le L 0 { s with f := none }
    unfold rounds
    by_cases c : (pass 0 L { s with f := none }).f = none
    · rw [if_pos c]
      refine ⟨c, fun v => ?_⟩
      have e := pass_f L 0 _ c
      apply Decidable.byContradiction
      intro ne
      rw [e] at ne
      have := pass_grow (n := n) hD hn (s := { s with f := none }) sn le ne
      rw [e] at this
      omega
    · rw [if_neg c]
      -- a change: not all were settled
      have ex : ∃ v, s.A v ≠ D v := by
        apply Classical.byContradiction
        intro no
        have all : ∀ v, s.A v = D v := fun v => Classical.byContradiction fun z => no ⟨v, z⟩
        refine c ?_
        -- where all are settled nothing falls
        have quiet : ∀ (ls : Lk) (i : Nat) (t : Stt), (∀ l ∈ ls, l ∈ L) → (∀ v, t.A v = D v) → t.f = none → (pass i ls t).f = none := by
          intro ls
          induction ls with
          | nil => intro i t _ _ hf; exact hf
          | cons l ls ih =>
            intro i t hm ha hf
            have : rel1 t i l = t := by
              unfold rel1
              split
              · rfl
              · rename_i y ey
                rw [if_neg]
                intro cl
                have m := hm l (List.mem_cons_self ..)
                rw [ha] at ey
                obtain ⟨u1, a1, h5, h6⟩ := (hD l.1).way y ey
                obtain ⟨d2, qd2, ld2⟩ := (hD l.2.1).low u1 a1 _ h5 (h6.snoc (e := l.2.1) (x := l.2.2) m)
                unfold lessA at cl
                rw [ha, qd2] at cl
                have := of_decide_eq_true cl
                omega
            show (pass (i + 1) ls (rel1 t i l)).f = none
            rw [this]
            exact ih (i + 1) t (fun x hx => hm x (List.mem_cons_of_mem _ hx)) ha hf
        exact quiet L 0 _ (fun _ h => h) all rfl
      obtain ⟨v, ne⟩ := ex
      have g := pass_grow (n := n) hD hn (s := { s with f := none }) sn le ne
      have bd := stl_le (D := D) (A := (pass 0 L { s with f := none }).A) (n := n)
      have h' : n + 1 ≤ stl D s.A n + (r + 1) := h.resolve_left fun z => ne (z v)
      have gg : stl D s.A n + 1 ≤ stl D (pass 0 L { s with f := none }).A n := g
      exact rounds_ok hD hn r _ (by omega) sn' (le'.trans le) (.inr (by omega))
theorem start_ok (hD : ∀ v, IsS L A0 v (D v)) (h0 : ∀ u, n ≤ u → A0 u = none) : (∀ v, A0 v = D v) ∨ 1 ≤ stl D A0 n := by
  by_cases all : ∀ v, A0 v = D v
  · exact .inl all
  · right
    obtain ⟨v, ne⟩ : ∃ v, A0 v ≠ D v := Classical.byContradiction fun no => all fun v => Classical.byContradiction fun z => no ⟨v, z⟩
    have sn : SndA L A0 A0 := fun v d e => ⟨v, d, e, by rw [Int.sub_self]; exact Wk.nil v⟩
    cases q : D v with
    | none =>
      exfalso
      cases q' : A0 v with
      | none => rw [q, q'] at ne; exact ne rfl
      | some d =>
        obtain ⟨d', z, _⟩ := settle hD sn q'
        rw [q] at z; cases z
    | some d =>
      obtain ⟨u, a, h1, h2⟩ := (hD v).way d q
      obtain ⟨a', qa, la⟩ := (hD u).low u a 0 h1 (Wk.nil u)
      obtain ⟨u', a'', h3, h4⟩ := (hD u).way a' qa
      obtain ⟨d', qd, ld⟩ := (hD v).low u' a'' _ h3 (h4.trans h2)
      rw [q] at qd; cases qd
      have ea : a' = a := by omega
      have un : u < n := by
        rcases Nat.lt_or_ge u n with z | z
        · exact z
        · rw [h0 u z] at h1; cases h1
      have := cnt_lt (P := fun _ => false) (Q := fun v => decide (A0 v = D v)) (fun _ z => by cases z) (e := u) rfl (decide_eq_true (by rw [h1, qa, ea])) (List.range n) (List.mem_range.mpr un)
      unfold stl
      omega
theorem spread_ok (hD : ∀ v, IsS L A0 v (D v)) (hn : In L n) (h1 : 1 ≤ n) (h0 : ∀ u, n ≤ u → A0 u = none) : (rounds L n ⟨A0, fun _ => none, none⟩).f = none ∧ ∀ v, (rounds L n ⟨A0, fun _ => none, none⟩).A v = D v := by
  refine rounds_ok hD hn n _ h1 (fun v d e => ⟨v, d, e, by rw [Int.sub_self]; exact Wk.nil v⟩) (LeA.refl _) ?_
  rcases start_ok hD h0 with h | h
  · exact .inl h
  · exact .inr (by show n + 1 ≤ stl D A0 n + n; omega)
end
theorem rounds_la {m : Nat} (hm : L.length ≤ m) : ∀ (r : Nat) (s : Stt), OkLa m s → OkLa m (rounds L r s)
  | 0, s, h => h
  | r + 1, s, h => by
    unfold rounds
    have := pass_la (m := m) L 0 { s with f := none } (by omega) h
    split
    · exact this
    · exact rounds_la hm r _ this
end GB
namespace K49
open PySem FL
variable {w : Wd}
theorem forG {g : GF} {b : SF} {x : D} {xs : List D} {ρ ρ1 : FL.Env} (h : g x ρ = some ρ1) : forL g b (x :: xs) ρ w = loopF (b ρ1 w) g b xs := forL_cons h
theorem dig0 {s0 s1 s5 : Slot} : ∀ (k n : Nat) (big : Int) (xs : List Int) (s4 : Slot), 0 ≤ big → xs.length + k ≤ 100 → ∃ (big' : Int) (ys : List Int) (s4' : Slot), forL (gN 4) B__law_digits_0 (rng n k) [s0, s1, .val (.int big), .own (xs.map D.int), s4, s5] w = .nx [s0, s1, .val (.int big'), .own ((xs ++ ys).map D.int), s4', s5] w ∧ ys.length = k ∧ ∀ y ∈ ys, 0 ≤ y
  | 0, n, big, xs, s4, hb, _ => ⟨big, [], s4, by rw [List.append_nil]; rfl, rfl, fun y hy => by cases hy⟩
  | k + 1, n, big, xs, s4, hb, hl => by
    have ll : (xs.map D.int).length < line := lt_line (by rw [List.length_map]; omega)
    have q : 0 ≤ big.fdiv 997 := Int.fdiv_nonneg hb (by decide)
    obtain ⟨big', ys, s4', e, h1, h2⟩ := dig0 (s0 := s0) (s1 := s1) (s5 := s5) k (n + 1) (big.fdiv 997) (xs ++ [big]) (.val (.int (n : Int))) q (by rw [List.length_append, List.length_singleton]; omega)
    have em : xs.map D.int ++ [D.int big] = (xs ++ [big]).map D.int := by simp
    refine ⟨big', big :: ys, s4', ?_, by rw [List.length_cons, h1], fun y hy => ?_⟩
    · show forL (gN 4) B__law_digits_0 (D.int (n : Int) :: rng (n + 1) k) _ w = _
      simp? only [Nat.reduceSub, Nat.reduceAdd, B__law_digits_0_w, appK_v 3 _ ll, em, fdiv_int (show (997 : Int) ≠ 0 by decide) (show Sz 10 997 by unfold Sz; decide)]
      rw [e]
      simp
    · rcases List.mem_cons.mp hy with rfl | hy
      · exact hb
      · exact h2 y hy
theorem dig1 {s0 s1 s2 : Slot} : ∀ (k n : Nat) (st : Int) (xs : List Int) (s4 : Slot), 0 ≤ st → st < 2147483648 → n + k ≤ 100 → xs.length + k ≤ 100 → ∃ (st' : Int) (ys : List Int) (s4' : Slot), forL (gN 4) B__law_digits_1 (rng n k) [s0, s1, s2, .own (xs.map D.int), s4, .val (.int st)] w = .nx [s0, s1, s2, .own ((xs ++ ys).map D.int), s4', .val (.int st')] w ∧ ys.length = k ∧ ∀ y ∈ ys, 0 ≤ y
  | 0, n, st, xs, s4, _, _, _, _ => ⟨st, [], s4, by rw [List.append_nil]; rfl, rfl, fun y hy => by cases hy⟩
  | k + 1, n, st, xs, s4, h0, h9, hn, hl => by
    have ll : (xs.map D.int).length < line := lt_line (by rw [List.length_map]; omega)
    have m1 : mulD (.int st) (.int 69621) w = .ok (.int (st * 69621)) w := mul_int (k := 31) (l := 17) (sz_lt h0 (by omega)) (by unfold Sz; decide)
    have m2 : mulD (.int 7919) (.int (n : Int)) w = .ok (.int (7919 * (n : Int))) w := mul_int (k := 13) (l := 7) (by unfold Sz; decide) (sz_lt (by omega) (by omega))
    have r := mod_rg (x := st * 69621 + 7919 * (n : Int) + 104729) (m := 2147483629) (by decide)
    have d0 : 0 ≤ ((st * 69621 + 7919 * (n : Int) + 104729).fmod 2147483629).fdiv 13 := Int.fdiv_nonneg r.1 (by decide)
    obtain ⟨st', ys, s4', e, h1, h2⟩ := dig1 (s0 := s0) (s1 := s1) (s2 := s2) k (n + 1) ((st * 69621 + 7919 * (n : Int) + 104729).fmod 2147483629) (xs ++ [((st * 69621 + 7919 * (n : Int) + 104729).fmod 2147483629).fdiv 13]) (.val (.int (n : Int))) r.1 (by have := r.2; omega) (by omega) (by rw [List.length_append, List.length_singleton]; omega)
    have em : ∀ d : Int, xs.map D.int ++ [D.int d] = (xs ++ [d]).map D.int := fun d => by simp
    refine ⟨st', ((st * 69621 + 7919 * (n : Int) + 104729).fmod 2147483629).fdiv 13 :: ys, s4', ?_, by rw [List.length_cons, h1], fun y hy => ?_⟩
    · show forL (gN 4) B__law_digits_1 (D.int (n : Int) :: rng (n + 1) k) _ w = _
      simp? only [Nat.reduceSub, Nat.reduceAdd, B__law_digits_1_w, m1, m2, mod_int (show (2147483629 : Int) ≠ 0 by decide), appK_v 3 _ ll, em, fdiv_int (show (13 : Int) ≠ 0 by decide) (show Sz 4 13 by unfold Sz; decide)]
      rw [e]
      simp
    · rcases List.mem_cons.mp hy with rfl | hy
      · exact d0
      · exact h2 y hy
theorem digits_w (c : Int) : ∃ ds : List Int, F__law_digits [.int c, .int 24] w = .ok (.lst (ds.map D.int)) w ∧ ds.length = 24 ∧ ∀ d ∈ ds, 0 ≤ d := by
  have p18 : powD (.int 10) (.int 18) w = .ok (.int 1000000000000000000) w := by rw [pow_int (by decide)]; rfl
  have rg : rangeM (.int 0) (.int 24) w = .ok (rng 0 24) w := range0 24 (by decide)
  have ab : (0 : Int) ≤ if c < 0 then -c else c := by split <;> omega
  unfold F__law_digits
  by_cases h : (if c < 0 then -c else c) ≥ 1000000000000000000
  · obtain ⟨big', ys, s4', e, h1, h2⟩ := dig0 (w := w) (s0 := .val (.int c)) (s1 := .val (.int 24)) (s5 := .none) 24 0 (if c < 0 then -c else c) [] .none ab (by decide)
    rw [List.nil_append] at e
    refine ⟨ys, ?_, h1, h2⟩
    rw [List.map_nil] at e
    simp? only [Nat.reduceSub, Nat.reduceAdd, p18, h, decide_true, rg, ↓e]
  · have cb : c.natAbs < 2 ^ 60 := by
      have e : (2 : Nat) ^ 60 = 1152921504606846976 := by decide
      rw [e]
      split at h <;> omega
    have m1 : mulD (.int c) (.int 48271) w = .ok (.int (c * 48271)) w := mul_int (k := 60) (l := 16) cb (by unfold Sz; decide)
    have r := mod_rg (x := c * 48271 + 11) (m := 2147483647) (by decide)
    obtain ⟨st', ys, s4', e, h1, h2⟩ := dig1 (w := w) (s0 := .val (.int c)) (s1 := .val (.int 24)) (s2 := .val (.int (if c < 0 then -c else c))) 24 0 ((c * 48271 + 11).fmod 2147483647) [] .none r.1 (by have := r.2; omega) (by decide) (by decide)
    rw [List.nil_append] at e
    refine ⟨ys, ?_, h1, h2⟩
    rw [List.map_nil] at e
    simp? only [Nat.reduceSub, Nat.reduceAdd, p18, h, decide_false, m1, mod_int (show (2147483647 : Int) ≠ 0 by decide), rg, ↓e]
theorem cell_w (ns : List Int) : ∃ c : Int, F__law_cell [.frz (ns.map D.int), .int 0] w = .ok (.int c) w := by
  unfold F__law_cell
  cases ns with
  | nil =>
    refine ⟨1000003 * 0 + 7, ?_⟩
    have m1 : mulD (.int 1000003) (.int 0) w = .ok (.int (1000003 * 0)) w := mul_int (k := 20) (l := 1) (by unfold Sz; decide) (by unfold Sz; decide)
    have c : decide ((0 : Int) < ((List.map D.int []).length : Nat)) = false := rfl
    simp? only [Nat.reduceSub, Nat.reduceAdd, m1, c]
  | cons x r =>
    refine ⟨x, ?_⟩
    have c : decide ((0 : Int) < ((List.map D.int (x :: r)).length : Nat)) = true := decide_eq_true (by rw [List.length_map, List.length_cons]; omega)
    have i0 : itemAt ((x :: r).map D.int) 0 = some (.int x) := itemMap (k := 0) rfl
    simp? only [Nat.reduceSub, Nat.reduceAdd, c, i0]
end K49
namespace K49
open PySem FL GB
variable {w : Wd}
theorem slB_v {ρ : FL.Env} {a e1 e2 : EF} {xs : List D} {i j : Nat} (ha : a ρ w = .ok (.lst xs) w) (h1 : e1 ρ w = .ok (.int (i : Int)) w) (h2 : e2 ρ w = .ok (.int (j : Int)) w) (hj : j ≤ xs.length) (hij : i ≤ j) : eSlice a (some e1) (some e2) ρ w = .ok (.lst ((xs.drop i).take (j - i))) w := by
  have e : eSlice a (some e1) (some e2) ρ w = sliceD (.lst xs) (some (i : Int)) (some (j : Int)) w := by
    unfold eSlice M.bind
    simp only [ha, h1, M.ret]
    rw [h2]; rfl
  rw [e]
  show R.ok (D.lst (cutL xs (some (i : Int)) (some (j : Int)))) w = _
  unfold cutL cutAt
  simp only [if_pos (Int.natCast_nonneg i), if_pos (Int.natCast_nonneg j), Int.toNat_natCast]
  rw [Nat.min_eq_left (show i ≤ xs.length by omega)]
  first | rfl | rw [Nat.min_eq_left hj]
structure Rw where
  lo : Nat
  hi : Nat
  l : Int
  u : Int
def rwD (r : Rw) : D := .tup [.int r.lo, .int r.hi, .int r.l, .int r.u]
theorem tie_w (d : Int) {m : Nat} (h : 1 ≤ m) (h9 : m ≤ 100) : ∃ lo hi : Nat, (∀ w : Wd, F__law_tie [.int d, .int (m : Int)] w = .ok (.tup [.int (lo : Int), .int (hi : Int)]) w) ∧ lo < hi ∧ hi ≤ m := by
  have r1 := mod_rg (x := d) (m := (m : Int)) (by omega)
  have r2 := mod_rg (x := d.fdiv m) (m := (m : Int) - d.fmod m) (by omega)
  obtain ⟨lo, e1⟩ : ∃ lo : Nat, d.fmod m = (lo : Int) := ⟨(d.fmod m).toNat, by omega⟩
  obtain ⟨k, e2⟩ : ∃ k : Nat, (d.fdiv m).fmod ((m : Int) - d.fmod m) = (k : Int) := ⟨((d.fdiv m).fmod ((m : Int) - d.fmod m)).toNat, by omega⟩
  refine ⟨lo, lo + 1 + k, fun w => ?_, by omega, by omega⟩
  have m1 : ∀ w : Wd, modD (.int d) (.int (m : Int)) w = .ok (.int (lo : Int)) w := fun w => by rw [mod_int (by omega), e1]
  have m2 : ∀ w : Wd, fdivD (.int d) (.int (m : Int)) w = .ok (.int (d.fdiv m)) w := fun w => fdiv_int (k := 7) (by omega) (sz_lt (by omega) (by omega)) (by decide)
  rw [e1] at e2
  have m3 : ∀ w : Wd, modD (.int (d.fdiv m)) (.int ((m : Int) - (lo : Int))) w = .ok (.int (k : Int)) w := fun w => by rw [mod_int (by omega), e2]
  unfold F__law_tie
  simp? only [Nat.reduceSub, Nat.reduceAdd, ↓m1, ↓m2, ↓m3]
  congr 3
theorem weights_w {ds : List Int} (hd : ds.length = 24) {m : Nat} (hm : m ≤ 6) : ∃ ws : List Int, (∀ w : Wd, F__law_weights [.lst (ds.map D.int), .int 2, .int (m : Int)] w = .ok (.lst (ws.map D.int)) w) ∧ ws.length = m ∧ ∀ x ∈ ws, 0 ≤ x ∧ x ≤ 18 := by
  let f : Nat → Int := fun k => (ds.getD (2 + k) 0).fmod 4 * ((ds.getD (2 + k) 0).fdiv 4).fmod 7
  refine ⟨(List.range m).map f, fun w => ?_, by rw [List.length_map, List.length_range], fun x hx => ?_⟩
  · have rg := range0 (w := w) m (by omega)
    have ll : (rng 0 m).length ≤ line := le_line (by
      rw [rng_map, List.length_map, List.length_range]; omega)
    have lc : ∀ ρ1 : Slot, lcL (gN 3) tYes (eBin mulD (eBin modD (eCall (un1 intD) [(eBin ixD (eVar 0) (eBin addD (eVar 1) (eVar 3)))]) (eC (.int 4))) (eBin modD (eBin fdivD (eCall (un1 intD) [(eBin ixD (eVar 0) (eBin addD (eVar 1) (eVar 3)))]) (eC (.int 4))) (eC (.int 7)))) [.val (.lst (ds.map D.int)), .val (.int 2), .val (.int (m : Int)), ρ1] (rng 0 m) w = .ok (((List.range m).map f).map D.int) w := fun ρ1 => by
      rw [rng_map, List.map_map]
      refine lcMap (f := fun (k : Nat) => D.int (k : Int)) (g := D.int ∘ f) 3 _ (List.range m) fun k hk => ?_
      have hk := List.mem_range.mp hk
      have e2 : (2 : Int) + (k : Int) = ((2 + k : Nat) : Int) := by omega
      have it : itemAt (ds.map D.int) ((2 + k : Nat) : Int) = some (.int (ds.getD (2 + k) 0)) := itemMap (by
        rw [List.getD_eq_getElem?_getD, List.getElem?_eq_getElem (by omega)]; rfl)
      have r1 := mod_rg (x := ds.getD (2 + k) 0) (m := 4) (by decide)
      have r2 := mod_rg (x := (ds.getD (2 + k) 0).fdiv 4) (m := 7) (by decide)
      have mu : mulD (.int ((ds.getD (2 + k) 0).fmod 4)) (.int (((ds.getD (2 + k) 0).fdiv 4).fmod 7)) w = .ok (.int (f k)) w := mul_int (k := 2) (l := 3) (sz_lt r1.1 (by have := r1.2; omega)) (sz_lt r2.1 (by have := r2.2; omega))
      simp? only [Nat.reduceSub, Nat.reduceAdd, e2, it, mod_int (show (4 : Int) ≠ 0 by decide), mod_int (show (7 : Int) ≠ 0 by decide), fdiv_int (show (4 : Int) ≠ 0 by decide) (show Sz 3 4 by unfold Sz; decide), mu]
      rfl
    unfold F__law_weights
    simp? only [Nat.reduceSub, Nat.reduceAdd, rg, lcM_v _ _ _ _ ll, lc]
  · obtain ⟨k, _, rfl⟩ := List.mem_map.mp hx
    have r1 := mod_rg (x := ds.getD (2 + k) 0) (m := 4) (by decide)
    have r2 := mod_rg (x := (ds.getD (2 + k) 0).fdiv 4) (m := 7) (by decide)
    have h1 := Int.mul_nonneg r1.1 r2.1
    have h2 : (ds.getD (2 + k) 0).fmod 4 * ((ds.getD (2 + k) 0).fdiv 4).fmod 7 ≤ 3 * ((ds.getD (2 + k) 0).fdiv 4).fmod 7 := Int.mul_le_mul_of_nonneg_right (by omega) r2.1
    show 0 ≤ _ * _ ∧ _ * _ ≤ 18
    omega
def pre (ws : List Int) (k : Nat) : Int := (ws.take k).sum
theorem pre_seg (ws : List Int) {i j : Nat} (h : i ≤ j) : ((ws.drop i).take (j - i)).sum = pre ws j - pre ws i := by
  unfold pre
  have e : ws.take j = ws.take i ++ (ws.drop i).take (j - i) := by
    have := List.take_append_drop i (ws.take j)
    rw [List.take_take, Nat.min_eq_left h, List.drop_take] at this
    exact this.symm
  rw [e, List.sum_append]
  omega
theorem pre_step {ws : List Int} (h : ∀ x ∈ ws, 0 ≤ x ∧ x ≤ 18) (k : Nat) : pre ws k ≤ pre ws (k + 1) ∧ pre ws (k + 1) ≤ pre ws k + 18 := by
  have e : ((ws.drop k).take (k + 1 - k)).sum = _ := pre_seg ws (Nat.le_succ k)
  have : 0 ≤ ((ws.drop k).take (k + 1 - k)).sum ∧ ((ws.drop k).take (k + 1 - k)).sum ≤ 18 := by
    rw [Nat.add_sub_cancel_left]
    cases z : ws.drop k with
    | nil => simp
    | cons x r =>
      have := h x (List.mem_of_mem_drop (by rw [z]; exact List.mem_cons_self ..))
      simp [this]
  omega
theorem pre_bd {ws : List Int} (h : ∀ x ∈ ws, 0 ≤ x ∧ x ≤ 18) : ∀ k : Nat, 0 ≤ pre ws k ∧ pre ws k ≤ 18 * (k : Int)
  | 0 => by unfold pre; simp
  | k + 1 => by
    have := pre_bd h k
    have := pre_step h k
    omega
structure Ok (m : Nat) (p : Nat → Int) (r : Rw) : Prop where
  lt : r.lo < r.hi
  le : r.hi ≤ m
  low : r.l ≤ p r.hi - p r.lo
  upp : p r.hi - p r.lo ≤ r.u
  bl : -10 ≤ r.l ∧ r.l ≤ 200
  bu : 0 ≤ r.u ∧ r.u ≤ 200
theorem rounds_in {ds : List Int} (hd : ds.length = 24) {ws : List Int} (hw : ∀ x ∈ ws, 0 ≤ x ∧ x ≤ 18) (m1 : 1 ≤ ws.length) (m6 : ws.length ≤ 6) {s2 : Slot} : ∀ (k n : Nat) (rs : List Rw) (s5 s6 s7 s8 s9 : Slot), n + k ≤ 8 → rs.length + k ≤ 50 → (∀ r ∈ rs, Ok ws.length (pre ws) r) → ∃ (rs' : List Rw) (s5' s6' s7' s8' s9' : Slot), forL (gN 5) B__law_round_true_0 (rng n k) [.val (.lst (ds.map D.int)), .val (.int 8), s2, .val (.lst (ws.map D.int)), .own (rs.map rwD), s5, s6, s7, s8, s9] w = .nx [.val (.lst (ds.map D.int)), .val (.int 8), s2, .val (.lst (ws.map D.int)), .own (rs'.map rwD), s5', s6', s7', s8', s9'] w ∧ rs'.length = rs.length + k ∧ ∀ r ∈ rs', Ok ws.length (pre ws) r
  | 0, n, rs, s5, s6, s7, s8, s9, _, _, h => ⟨rs, s5, s6, s7, s8, s9, rfl, rfl, h⟩
  | k + 1, n, rs, s5, s6, s7, s8, s9, hn, hl, h => by
    have ll : (rs.map rwD).length < line := lt_line (by rw [List.length_map]; omega)
    have e2 : (8 : Int) + (n : Int) = ((8 + n : Nat) : Int) := by omega
    have it : itemAt (ds.map D.int) ((8 + n : Nat) : Int) = some (.int (ds.getD (8 + n) 0)) := itemMap (by
      rw [List.getD_eq_getElem?_getD, List.getElem?_eq_getElem (by omega)]; rfl)
    generalize ds.getD (8 + n) 0 = d at it
    obtain ⟨lo, hi, et, t1, t2⟩ := tie_w d m1 (by omega)
    have sl := fun (s6 s9 : Slot) (w : Wd) => slB_v (w := w) (ρ := [.val (.lst (ds.map D.int)), .val (.int 8), s2, .val (.lst (ws.map D.int)), .own (rs.map rwD), .val (.int (n : Int)), s6, .val (.int (lo : Int)), .val (.int (hi : Int)), s9]) (a := eVar 3) (e1 := eVar 7) (e2 := eVar 8) (xs := ws.map D.int) (i := lo) (j := hi) rfl rfl rfl (by rw [List.length_map]; exact t2) (by omega)
    have em : ((ws.map D.int).drop lo).take (hi - lo) = ((ws.drop lo).take (hi - lo)).map D.int := by rw [← List.map_drop, ← List.map_take]
    simp only [em] at sl
    have sg := pre_seg ws (i := lo) (j := hi) (by omega)
    have r1 := mod_rg (x := d.fdiv 72) (m := 3) (by decide)
    have r2 := mod_rg (x := d.fdiv 216) (m := 4) (by decide)
    have b0 : 0 ≤ pre ws hi - pre ws lo ∧ pre ws hi - pre ws lo ≤ 108 := by
      have mono : ∀ k j, pre ws j ≤ pre ws (j + k) := by
        intro k
        induction k with
        | zero => intro j; exact Int.le_refl _
        | succ k ih => intro j; exact Int.le_trans (ih j) (pre_step hw (j + k)).1
      have a := mono (hi - lo) lo
      rw [show lo + (hi - lo) = hi by omega] at a
      have b := (pre_bd hw hi).2
      have c := (pre_bd hw lo).1
      omega
    obtain ⟨rs', s5', s6', s7', s8', s9', e, h1, h2⟩ := rounds_in hd hw m1 m6 (s2 := s2) k (n + 1) (rs ++ [⟨lo, hi, pre ws hi - pre ws lo - (d.fdiv 72).fmod 3, pre ws hi - pre ws lo + (d.fdiv 216).fmod 4⟩]) (.val (.int (n : Int))) (.val (.int d)) (.val (.int (lo : Int))) (.val (.int (hi : Int))) (.val (.int (pre ws hi - pre ws lo))) (by omega) (by rw [List.length_append, List.length_singleton]; omega) (fun r hr => by
      rcases List.mem_append.mp hr with z | z
      · exact h r z
      · rw [List.mem_singleton.mp z]
        exact ⟨t1, t2, by show pre ws hi - pre ws lo - (d.fdiv 72).fmod 3 ≤ pre ws hi - pre ws lo; omega, by show pre ws hi - pre ws lo ≤ pre ws hi - pre ws lo + (d.fdiv 216).fmod 4; omega, by show -10 ≤ pre ws hi - pre ws lo - (d.fdiv 72).fmod 3 ∧ pre ws hi - pre ws lo - (d.fdiv 72).fmod 3 ≤ 200; omega, by show 0 ≤ pre ws hi - pre ws lo + (d.fdiv 216).fmod 4 ∧ pre ws hi - pre ws lo + (d.fdiv 216).fmod 4 ≤ 200; omega⟩)
    have ea : rs.map rwD ++ [D.tup [.int (lo : Int), .int (hi : Int), .int (pre ws hi - pre ws lo - (d.fdiv 72).fmod 3), .int (pre ws hi - pre ws lo + (d.fdiv 216).fmod 4)]] = (rs ++ [(⟨lo, hi, pre ws hi - pre ws lo - (d.fdiv 72).fmod 3, pre ws hi - pre ws lo + (d.fdiv 216).fmod 4⟩ : Rw)]).map rwD := by simp [rwD]
    refine ⟨rs', s5', s6', s7', s8', s9', ?_, by rw [h1, List.length_append, List.length_singleton]; omega, h2⟩
    show forL (gN 5) B__law_round_true_0 (D.int (n : Int) :: rng (n + 1) k) _ w = _
    simp? only [Nat.reduceSub, Nat.reduceAdd, B__law_round_true_0_w, e2, it, List.length_map, ↓et, ↓sl, sg, mod_int (show (3 : Int) ≠ 0 by decide), mod_int (show (4 : Int) ≠ 0 by decide), fdiv_int (show (72 : Int) ≠ 0 by decide) (show Sz 7 72 by unfold Sz; decide), fdiv_int (show (216 : Int) ≠ 0 by decide) (show Sz 8 216 by unfold Sz; decide), appK_v 4 _ ll, ea]
    exact e
theorem round_true_w {ds : List Int} (hd : ds.length = 24) {ws : List Int} (hw : ∀ x ∈ ws, 0 ≤ x ∧ x ≤ 18) (m1 : 1 ≤ ws.length) (m6 : ws.length ≤ 6) {k : Nat} (hk : k ≤ 8) : ∃ rs : List Rw, F__law_round_true [.lst (ds.map D.int), .int 8, .int (k : Int), .lst (ws.map D.int)] w = .ok (rs.map rwD) w ∧ rs.length = k ∧ ∀ r ∈ rs, Ok ws.length (pre ws) r := by
  obtain ⟨rs, s5, s6, s7, s8, s9, e, h1, h2⟩ := rounds_in (w := w) hd hw m1 m6 (s2 := .val (.int (k : Int))) k 0 [] .none .none .none .none .none (by omega) (by simp; omega) (fun r hr => by cases hr)
  rw [List.length_nil, Nat.zero_add] at h1
  refine ⟨rs, ?_, h1, h2⟩
  have rg := range0 (w := w) k (by omega)
  have ow : sOwn 4 (evs []) [.val (.lst (ds.map D.int)), .val (.int 8), .val (.int (k : Int)), .val (.lst (ws.map D.int)), .none, .none, .none, .none, .none, .none] w = .nx [.val (.lst (ds.map D.int)), .val (.int 8), .val (.int (k : Int)), .val (.lst (ws.map D.int)), .own [], .none, .none, .none, .none, .none] w := rfl
  have fo : sFor (iRng (eC (.int 0)) (eVar 2)) (gN 5) B__law_round_true_0 [.val (.lst (ds.map D.int)), .val (.int 8), .val (.int (k : Int)), .val (.lst (ws.map D.int)), .own [], .none, .none, .none, .none, .none] w = .nx [.val (.lst (ds.map D.int)), .val (.int 8), .val (.int (k : Int)), .val (.lst (ws.map D.int)), .own (rs.map rwD), s5, s6, s7, s8, s9] w := by
    rw [List.map_nil] at e
    simp? only [Nat.reduceSub, Nat.reduceAdd, rg, ↓e]
  unfold F__law_round_true callL sSeqL
  simp only [vals, List.map_cons, List.map_nil, List.length_cons, List.length_nil, List.replicate_succ, List.replicate_zero, List.cons_append, List.nil_append, Nat.reduceSub, Nat.reduceAdd, Nat.zero_add]
  rw [ow]
  simp only
  rw [fo]
  rfl
end K49
namespace K49
open PySem FL GB
variable {w : Wd}
def tlD (b : Int) (r : Rw) : D := .tup [.int r.lo, .int r.hi, rq (Rat.divInt r.l b), rq (Rat.divInt r.u b)]
theorem told_w {rs : List Rw} (hl : rs.length ≤ 100) {b : Int} (h0 : 1 ≤ b) (h3 : b ≤ 3) : F__law_told [.lst (rs.map rwD), .int b] w = .ok (.lst (rs.map (tlD b))) w := by
  have ra := fun (a : Int) (w : Wd) => ratio_q (w := w) (a := a) (b := b) (k := 2) (by omega) (sz_lt (by omega) (by omega)) (by decide)
  have ll : (rs.map rwD).length ≤ line := le_line (by rw [List.length_map]; omega)
  have lc : lcL (gN 2) tYes (eTup [(eBin ixD (eVar 2) (eC (.int 0))), (eBin ixD (eVar 2) (eC (.int 1))), (eCall F__law_ratio [(eBin ixD (eVar 2) (eC (.int 2))), (eVar 1)]), (eCall F__law_ratio [(eBin ixD (eVar 2) (eC (.int 3))), (eVar 1)])]) [.val (.lst (rs.map rwD)), .val (.int b), .none] (rs.map rwD) w = .ok (rs.map (tlD b)) w :=
    lcMap (f := rwD) (g := tlD b) 2 _ rs fun r _ => by
      simp? only [Nat.reduceSub, Nat.reduceAdd, rwD, ↓ra]
      rfl
  unfold F__law_told
  simp? only [Nat.reduceSub, Nat.reduceAdd, lcM_v _ _ _ _ ll, lc]
def oD : Option Int → D
  | none => .non
  | some i => .int i
def rowT' (n : Nat) (T : Tb) (a : Nat) : List D := (List.range n).map fun b => oD (T a b)
def tabD (n : Nat) (T : Tb) : List D := (List.range n).map fun a => .lst (rowT' n T a)
def lkD (l : Nat × Nat × Int) : D := .tup [.int l.1, .int l.2.1, .int l.2.2]
def linksL (m : Nat) (rs : List Rw) : Lk := rs.map (fun r => (r.lo, r.hi, r.u)) ++ rs.map (fun r => (r.hi, r.lo, -r.l)) ++ (List.range m).map fun a => (a + 1, a, 0)
theorem row_at {n : Nat} {T : Tb} {a b : Nat} (hb : b < n) : itemAt (rowT' n T a) (b : Int) = some (oD (T a b)) := itemMap (f := fun b => oD (T a b)) (List.getElem?_range hb)
theorem tab_at {n : Nat} {T : Tb} {a : Nat} (ha : a < n) : itemAt (tabD n T) (a : Int) = some (.lst (rowT' n T a)) := itemMap (f := fun a => D.lst (rowT' n T a)) (List.getElem?_range ha)
theorem row_set {n : Nat} {T : Tb} {a b : Nat} {v : Int} (hb : b < n) : (rowT' n T a).set b (.int v) = rowT' n (putT T a b v) a := by
  unfold rowT'
  apply List.ext_getElem?
  intro j
  by_cases e : b = j
  · subst e
    rw [List.getElem?_set_self (by rw [List.length_map, List.length_range]; exact hb), List.getElem?_map, List.getElem?_range hb]
    show _ = some (oD (putT T a b v a b))
    unfold putT
    rw [if_pos ⟨rfl, rfl⟩]; rfl
  · rw [List.getElem?_set_ne e, List.getElem?_map, List.getElem?_map]
    by_cases hj : j < n
    · rw [List.getElem?_range hj]
      show some (oD (T a j)) = some (oD (putT T a b v a j))
      unfold putT
      rw [if_neg fun z => e z.2.symm]
    · rw [List.getElem?_eq_none (by rw [List.length_range]; omega)]; rfl
theorem row_other {n : Nat} {T : Tb} {a b c : Nat} {v : Int} (h : c ≠ a) : rowT' n (putT T a b v) c = rowT' n T c := by
  unfold rowT'
  refine List.map_congr_left fun j _ => ?_
  unfold putT
  rw [if_neg fun z => h z.1]
theorem tab_set {n : Nat} {T : Tb} {a b : Nat} {v : Int} (ha : a < n) : (tabD n T).set a (.lst (rowT' n (putT T a b v) a)) = tabD n (putT T a b v) := by
  unfold tabD
  apply List.ext_getElem?
  intro j
  by_cases e : a = j
  · subst e
    rw [List.getElem?_set_self (by rw [List.length_map, List.length_range]; exact ha), List.getElem?_map, List.getElem?_range ha]
    rfl
  · rw [List.getElem?_set_ne e, List.getElem?_map, List.getElem?_map]
    by_cases hj : j < n
    · rw [List.getElem?_range hj]
      show some (D.lst (rowT' n T j)) = some (D.lst (rowT' n (putT T a b v) j))
      rw [row_other (fun z => e z.symm)]
    · rw [List.getElem?_eq_none (by rw [List.length_range]; omega)]; rfl
theorem noTL_row (t : List D) (n : Nat) (T : Tb) (a : Nat) : noTL t (rowT' n T a) = true := by
  unfold rowT'
  generalize List.range n = l
  induction l with
  | nil => rfl
  | cons b l ih =>
    show (noT t (oD (T a b)) && noTL t (l.map fun b => oD (T a b))) = true
    rw [ih]
    cases T a b <;> rfl
theorem noTL_rows (t : List D) : ∀ rs : List Rw, noTL t (rs.map rwD) = true
  | [] => rfl
  | r :: rs => by
    show (noT t (rwD r) && noTL t (rs.map rwD)) = true
    rw [noTL_rows t rs]
    rfl
theorem noTL_links (t : List D) : ∀ l : Lk, noTL t (l.map lkD) = true
  | [] => rfl
  | x :: l => by
    show (noT t (lkD x) && noTL t (l.map lkD)) = true
    rw [noTL_links t l]
    rfl
theorem unl_o {o : Option Int} {d : D} (h : kd d = 4 ∨ kd d = 5) : unl1 (oD o) d = true := by
  cases d with
  | tup xs => cases o <;> rfl
  | lst xs => cases o <;> rfl
  | frz xs => cases o <;> rfl
  | _ => rcases h with h | h <;> exact absurd h (by intro z; cases z)
theorem unl_row {n : Nat} {T : Tb} {a : Nat} (h : 1 ≤ n) : ∀ ys : List D, (∀ d ∈ ys, kd d = 4 ∨ kd d = 5) → unlL (rowT' n T a) ys = true := fun ys hy => by
  obtain ⟨k, rfl⟩ : ∃ k, n = k + 1 := ⟨n - 1, by omega⟩
  unfold rowT'
  rw [List.range_succ_eq_map]
  cases ys with
  | nil => rfl
  | cons y ys =>
    show (unl1 (oD (T a 0)) y || unlL _ ys) = true
    rw [unl_o (hy y (List.mem_cons_self ..))]
    rfl
theorem kd_rows (rs : List Rw) : ∀ d ∈ rs.map rwD, kd d = 4 ∨ kd d = 5 := fun d hd => by
  obtain ⟨r, _, rfl⟩ := List.mem_map.mp hd
  exact .inl rfl
theorem kd_links (l : Lk) : ∀ d ∈ l.map lkD, kd d = 4 ∨ kd d = 5 := fun d hd => by
  obtain ⟨r, _, rfl⟩ := List.mem_map.mp hd
  exact .inl rfl
theorem kd_tab (n : Nat) (T : Tb) : ∀ d ∈ tabD n T, kd d = 4 ∨ kd d = 5 := fun d hd => by
  obtain ⟨r, _, rfl⟩ := List.mem_map.mp hd
  exact .inr rfl
theorem all_tab {t : List D} {n : Nat} {T : Tb} : (tabD n T).all (noTI t) = true := by
  rw [List.all_eq_true]
  intro d hd
  obtain ⟨r, _, rfl⟩ := List.mem_map.mp hd
  exact noTL_row t n T r
def Qt (s : Slot) : Prop := s = .none ∨ s = .val .non ∨ ∃ i, s = .val (.int i)
theorem Qt.wip {s : Slot} (h : Qt s) (t : List D) : wipS t s = s ∧ okS1 t s = true := by
  rcases h with rfl | rfl | ⟨i, rfl⟩ <;> exact ⟨rfl, rfl⟩
theorem Qt.i (i : Int) : Qt (.val (.int i)) := .inr (.inr ⟨i, rfl⟩)
theorem Qt.n : Qt .none := .inl rfl
theorem Qt.o (o : Option Int) : Qt (.val (oD o)) := by
  cases o with
  | none => exact .inr (.inl rfl)
  | some i => exact .inr (.inr ⟨i, rfl⟩)
section
variable {n : Nat} {T : Tb} {rs : List Rw} {lk : Lk} {m : D} {s4 s5 s6 s8 s9 s10 s11 s12 s13 : Slot}
abbrev En (m : D) (rs : List Rw) (n : Nat) (T : Tb) (lk : Lk) (s4 s5 s6 s7 s8 s9 s10 s11 s12 s13 : Slot) : FL.Env := [.val m, .val (.lst (rs.map rwD)), .nest (tabD n T), .val (.lst (lk.map lkD)), s4, s5, s6, s7, s8, s9, s10, s11, s12, s13]
theorem put_ok {i : Int} (h1 : 1 ≤ n) {a b : Nat} (ha : a < n) (hb : b < n) {v : Int} (q4 : Qt s4) (q5 : Qt s5) (q6 : Qt s6) (q8 : Qt s8) (q9 : Qt s9) (q10 : Qt s10) (q11 : Qt s11) (q12 : Qt s12) (q13 : Qt s13) :
    pAS 2 7 a b (tabD n T) (rowT' n T a) (.int v) (En (.int i) rs n T lk s4 s5 s6 (.val (.lst (rowT' n T a))) s8 s9 s10 s11 s12 s13) none = .nx (En (.int i) rs n (putT T a b v) lk s4 s5 s6 (.val (.lst (rowT' n (putT T a b v) a))) s8 s9 s10 s11 s12 s13) none := by
  generalize ht : rowT' n T a = t
  have c1 : unlL t (tabD n T) = true := by rw [← ht]; exact unl_row h1 _ (kd_tab n T)
  have c2 : noTL t t = true := by rw [← ht]; exact noTL_row _ n T a
  have c3 := all_tab (t := t) (n := n) (T := T)
  have wr : wipS t (.val (.lst (rs.map rwD))) = .val (.lst (rs.map rwD)) := by
    have : noT t (.lst (rs.map rwD)) = true := by
      show (unlL t (rs.map rwD) && noTL t (rs.map rwD)) = true
      rw [← ht, unl_row h1 _ (kd_rows rs), noTL_rows]; rfl
    unfold wipS
    simp only [if_pos this]
  have wl : wipS t (.val (.lst (lk.map lkD))) = .val (.lst (lk.map lkD)) := by
    have : noT t (.lst (lk.map lkD)) = true := by
      show (unlL t (lk.map lkD) && noTL t (lk.map lkD)) = true
      rw [← ht, unl_row h1 _ (kd_links lk), noTL_links]; rfl
    unfold wipS
    simp only [if_pos this]
  have ok : okT t (En (.int i) rs n T lk s4 s5 s6 (.val (.lst t)) s8 s9 s10 s11 s12 s13) none = true := by
    unfold okT
    simp only [List.all_cons, List.all_nil, (q4.wip t).2, (q5.wip t).2, (q6.wip t).2, (q8.wip t).2, (q9.wip t).2, (q10.wip t).2, (q11.wip t).2, (q12.wip t).2, (q13.wip t).2]
    rfl
  unfold pAS
  rw [if_pos (by rw [c1, c2, c3, ok]; rfl)]
  congr 1
  have e : wipT t (En (.int i) rs n T lk s4 s5 s6 (.val (.lst t)) s8 s9 s10 s11 s12 s13) = [.val (.int i), .val (.lst (rs.map rwD)), wipS t (.nest (tabD n T)), .val (.lst (lk.map lkD)), s4, s5, s6, wipS t (.val (.lst t)), s8, s9, s10, s11, s12, s13] := by
    unfold wipT
    simp only [List.map_cons, List.map_nil, wr, wl, (q4.wip t).1, (q5.wip t).1, (q6.wip t).1, (q8.wip t).1, (q9.wip t).1, (q10.wip t).1, (q11.wip t).1, (q12.wip t).1, (q13.wip t).1]
    rfl
  rw [e, ← ht, row_set hb, tab_set ha]
  rfl
theorem sPutA_v {i : Int} (h1 : 1 ≤ n) {a b : Nat} (ha : a < n) (hb : b < n) {v : Int} {fk fe : EF} (q4 : Qt s4) (q5 : Qt s5) (q6 : Qt s6) (q8 : Qt s8) (q9 : Qt s9) (q10 : Qt s10) (q11 : Qt s11) (q12 : Qt s12) (q13 : Qt s13)
    (he : fe (En (.int i) rs n T lk s4 s5 s6 (.val (.lst (rowT' n T a))) s8 s9 s10 s11 s12 s13) none = .ok (.int v) none) (hk : fk (En (.int i) rs n T lk s4 s5 s6 (.val (.lst (rowT' n T a))) s8 s9 s10 s11 s12 s13) none = .ok (.int (b : Int)) none) :
    sPutA 2 7 a fk fe (En (.int i) rs n T lk s4 s5 s6 (.val (.lst (rowT' n T a))) s8 s9 s10 s11 s12 s13) none = .nx (En (.int i) rs n (putT T a b v) lk s4 s5 s6 (.val (.lst (rowT' n (putT T a b v) a))) s8 s9 s10 s11 s12 s13) none := by
  have ix : ixP (rowT' n T a).length (b : Int) = some b := by
    unfold rowT'
    rw [List.length_map, List.length_range, ixP_in (by omega) (by omega), Int.toNat_natCast]
  have e : sPutA 2 7 a fk fe (En (.int i) rs n T lk s4 s5 s6 (.val (.lst (rowT' n T a))) s8 s9 s10 s11 s12 s13) none = pAK 2 7 a (En (.int i) rs n T lk s4 s5 s6 (.val (.lst (rowT' n T a))) s8 s9 s10 s11 s12 s13) [.int v, .int (b : Int)] none := by
    unfold sPutA onE M.bind
    simp only [he]
    rw [hk]
    rfl
  have e2 : pAK 2 7 a (En (.int i) rs n T lk s4 s5 s6 (.val (.lst (rowT' n T a))) s8 s9 s10 s11 s12 s13) [.int v, .int (b : Int)] none = pAS 2 7 a b (tabD n T) (rowT' n T a) (.int v) (En (.int i) rs n T lk s4 s5 s6 (.val (.lst (rowT' n T a))) s8 s9 s10 s11 s12 s13) none := by
    show (match ixP (rowT' n T a).length (b : Int) with
      | some k => pAS 2 7 a k (tabD n T) (rowT' n T a) (.int v) (En (.int i) rs n T lk s4 s5 s6 (.val (.lst (rowT' n T a))) s8 s9 s10 s11 s12 s13) none
      | none => .bad) = _
    rw [ix]
  rw [e, e2]
  exact put_ok h1 ha hb q4 q5 q6 q8 q9 q10 q11 q12 q13
theorem sAli_v {a : Nat} {i : Int} {s7 : Slot} (ha : a < n) {fj : EF} {s : Nat → SF} (hj : fj (En (.int i) rs n T lk s4 s5 s6 s7 s8 s9 s10 s11 s12 s13) none = .ok (.int (a : Int)) none) :
    sAli 2 7 fj s (En (.int i) rs n T lk s4 s5 s6 s7 s8 s9 s10 s11 s12 s13) none = s a (En (.int i) rs n T lk s4 s5 s6 (.val (.lst (rowT' n T a))) s8 s9 s10 s11 s12 s13) none := by
  have ix : ixP (tabD n T).length (a : Int) = some a := by
    unfold tabD
    rw [List.length_map, List.length_range, ixP_in (by omega) (by omega), Int.toNat_natCast]
  have at' : (tabD n T)[a]? = some (.lst (rowT' n T a)) := by
    unfold tabD
    rw [List.getElem?_map, List.getElem?_range ha]; rfl
  have g2 : (En (.int i) rs n T lk s4 s5 s6 s7 s8 s9 s10 s11 s12 s13)[2]? = some (.nest (tabD n T)) := rfl
  have g7 : (En (.int i) rs n T lk s4 s5 s6 s7 s8 s9 s10 s11 s12 s13)[7]? = some s7 := rfl
  unfold sAli onE
  simp only [g2, g7, hj, ix, at']
  rfl
end
end K49
namespace K49
open PySem FL GB
variable {w : Wd}
section
variable {n : Nat} {T : Tb} {rs : List Rw} {lk : Lk} {i : Int} {s4 s5 s6 s7 s8 s9 s10 s11 s12 s13 : Slot}
theorem eNest {ds : List D} {ρ : FL.Env} (h : ρ[2]? = some (.nest ds)) : eVar 2 ρ w = .ok (.lst ds) w := by
  unfold eVar
  rw [h]; rfl
theorem tb0 (h1 : 1 ≤ n) {a b : Nat} (ha : a < n) (hb : b < n) {x : Int} (q8 : Qt s8) (q9 : Qt s9) (q10 : Qt s10) (q11 : Qt s11) (q12 : Qt s12) (q13 : Qt s13) : B__law_table_0 (En (.int i) rs n T lk (.val (.int (a : Int))) (.val (.int (b : Int))) (.val (.int x)) s7 s8 s9 s10 s11 s12 s13) none = .nx (En (.int i) rs n (minT T a b x) lk (.val (.int (a : Int))) (.val (.int (b : Int))) (.val (.int x)) (.val (.lst (rowT' n (minT T a b x) a))) s8 s9 s10 s11 s12 s13) none := by
  have pu := sPutA_v (rs := rs) (T := T) (lk := lk) (i := i) h1 ha hb (v := x) (fk := eVar 5) (fe := eVar 6) (Qt.i (a : Int)) (Qt.i (b : Int)) (Qt.i x) q8 q9 q10 q11 q12 q13 rfl rfl
  have ra := row_at (T := T) (a := a) hb
  rw [B__law_table_0_w, sAli_v ha rfl]
  cases e : T a b with
  | none =>
    have em : minT T a b x = putT T a b x := by
      unfold minT lessT
      rw [e]; rfl
    rw [em]
    rw [e] at ra
    simp? only [Nat.reduceSub, Nat.reduceAdd, ra, oD, ↓pu]
  | some z =>
    rw [e] at ra
    by_cases c : x < z
    · have em : minT T a b x = putT T a b x := by
        unfold minT lessT
        rw [e]
        simp only [decide_eq_true c, if_true]
      rw [em]
      simp? only [Nat.reduceSub, Nat.reduceAdd, ra, oD, c, decide_true, ↓pu]
    · have em : minT T a b x = T := by
        unfold minT lessT
        rw [e]
        simp only [decide_eq_false c]
        rfl
      rw [em]
      simp? only [Nat.reduceSub, Nat.reduceAdd, ra, oD, c, decide_false]
theorem tbL (h1 : 1 ≤ n) (q8 : Qt s8) (q9 : Qt s9) (q10 : Qt s10) (q11 : Qt s11) (q12 : Qt s12) (q13 : Qt s13) : ∀ (ls : Lk) (T : Tb) (s4 s5 s6 s7 : Slot), (∀ l ∈ ls, l.1 < n ∧ l.2.1 < n) → Qt s4 → Qt s5 → Qt s6 → ∃ s4' s5' s6' s7' : Slot, Qt s4' ∧ Qt s5' ∧ Qt s6' ∧ forL (gT [4, 5, 6]) B__law_table_0 (ls.map lkD) (En (.int i) rs n T lk s4 s5 s6 s7 s8 s9 s10 s11 s12 s13) none = .nx (En (.int i) rs n (ls.foldl linkT T) lk s4' s5' s6' s7' s8 s9 s10 s11 s12 s13) none
  | [], T, s4, s5, s6, s7, _, q4, q5, q6 => ⟨s4, s5, s6, s7, q4, q5, q6, rfl⟩
  | l :: ls, T, s4, s5, s6, s7, hl, q4, q5, q6 => by
    obtain ⟨ha, hb⟩ := hl l (List.mem_cons_self ..)
    have e1 := tb0 (rs := rs) (T := T) (lk := lk) (i := i) (s7 := s7) h1 ha hb (x := l.2.2) q8 q9 q10 q11 q12 q13
    obtain ⟨s4', s5', s6', s7', r4, r5, r6, e2⟩ := tbL h1 q8 q9 q10 q11 q12 q13 ls (linkT T l) (.val (.int (l.1 : Int))) (.val (.int (l.2.1 : Int))) (.val (.int l.2.2)) (.val (.lst (rowT' n (minT T l.1 l.2.1 l.2.2) l.1))) (fun k hk => hl k (List.mem_cons_of_mem _ hk)) (Qt.i _) (Qt.i _) (Qt.i _)
    refine ⟨s4', s5', s6', s7', r4, r5, r6, ?_⟩
    show forL (gT [4, 5, 6]) B__law_table_0 (.tup [.int (l.1 : Int), .int (l.2.1 : Int), .int l.2.2] :: ls.map lkD) _ _ = _
    rw [forT3]
    show loopF (B__law_table_0 (En (.int i) rs n T lk (.val (.int (l.1 : Int))) (.val (.int (l.2.1 : Int))) (.val (.int l.2.2)) s7 s8 s9 s10 s11 s12 s13) none) _ _ _ = _
    rw [e1]
    exact e2
theorem tb1 (h1 : 1 ≤ n) {c a b : Nat} (hc : c < n) (ha : a < n) (hb : b < n) {x : Int} (hx : T a c = some x) (q4 : Qt s4) (q5 : Qt s5) (q6 : Qt s6) (q12 : Qt s12) (q13 : Qt s13) : B__law_table_1 a (En (.int i) rs n T lk s4 s5 s6 (.val (.lst (rowT' n T a))) (.val (.int (c : Int))) (.val (.int (a : Int))) (.val (.int (b : Int))) s11 s12 s13) none = .nx (En (.int i) rs n (stT c a b T) lk s4 s5 s6 (.val (.lst (rowT' n (stT c a b T) a))) (.val (.int (c : Int))) (.val (.int (a : Int))) (.val (.int (b : Int))) (.val (oD (T c b))) s12 s13) none := by
  have rb := row_at (T := T) (a := a) hb
  have rc := row_at (T := T) (a := a) hc
  have rcb := row_at (T := T) (a := c) hb
  have tc := tab_at (T := T) hc
  have en : ∀ s11 : Slot, eVar 2 (En (.int i) rs n T lk s4 s5 s6 (.val (.lst (rowT' n T a))) (.val (.int (c : Int))) (.val (.int (a : Int))) (.val (.int (b : Int))) s11 s12 s13) none = .ok (.lst (tabD n T)) none := fun s11 => eNest rfl
  rw [hx] at rc
  rw [B__law_table_1_w]
  cases e : T c b with
  | none =>
    have es : stT c a b T = T := by unfold stT; rw [hx, e]
    rw [es]
    rw [e] at rcb
    simp? only [Nat.reduceSub, Nat.reduceAdd, ↓en, tc, rcb, oD]
  | some y =>
    rw [e] at rcb
    have pu := sPutA_v (rs := rs) (T := T) (lk := lk) (i := i) h1 ha hb (v := x + y) (fk := eVar 10) (fe := eBin addD (eBin ixD (eVar 7) (eVar 8)) (eVar 11)) q4 q5 q6 (Qt.i (c : Int)) (Qt.i (a : Int)) (Qt.i (b : Int)) (s11 := .val (.int y)) (Qt.i y) q12 q13 (by simp? only [Nat.reduceSub, Nat.reduceAdd, rc, oD]) rfl
    cases e2 : T a b with
    | none =>
      have es : stT c a b T = putT T a b (x + y) := by
        unfold stT
        rw [hx, e]
        simp only
        unfold minT lessT
        rw [e2]; rfl
      rw [es]
      rw [e2] at rb
      simp? only [Nat.reduceSub, Nat.reduceAdd, ↓en, tc, rcb, rb, oD, ↓pu]
    | some z =>
      rw [e2] at rb
      by_cases k : x + y < z
      · have es : stT c a b T = putT T a b (x + y) := by
          unfold stT
          rw [hx, e]
          simp only
          unfold minT lessT
          rw [e2]
          simp only [decide_eq_true k, if_true]
        rw [es]
        simp? only [Nat.reduceSub, Nat.reduceAdd, ↓en, tc, rcb, rb, rc, oD, k, decide_true, ↓pu]
      · have es : stT c a b T = T := by
          unfold stT
          rw [hx, e]
          simp only
          unfold minT lessT
          rw [e2]
          simp only [decide_eq_false k]
          rfl
        rw [es]
        simp? only [Nat.reduceSub, Nat.reduceAdd, ↓en, tc, rcb, rb, rc, oD, k, decide_false]
theorem tb1L (h1 : 1 ≤ n) {c a : Nat} (hc : c < n) (ha : a < n) (q4 : Qt s4) (q5 : Qt s5) (q6 : Qt s6) (q12 : Qt s12) (q13 : Qt s13) : ∀ (k b : Nat) (T : Tb) (s10 s11 : Slot), b + k ≤ n → (∃ x, T a c = some x) → Qt s10 → Qt s11 → ∃ s10' s11' : Slot, Qt s10' ∧ Qt s11' ∧ forL (gN 10) (B__law_table_1 a) (rng b k) (En (.int i) rs n T lk s4 s5 s6 (.val (.lst (rowT' n T a))) (.val (.int (c : Int))) (.val (.int (a : Int))) s10 s11 s12 s13) none = .nx (En (.int i) rs n (rowT c a (List.range' b k) T) lk s4 s5 s6 (.val (.lst (rowT' n (rowT c a (List.range' b k) T) a))) (.val (.int (c : Int))) (.val (.int (a : Int))) s10' s11' s12 s13) none
  | 0, b, T, s10, s11, _, _, q10, q11 => ⟨s10, s11, q10, q11, rfl⟩
  | k + 1, b, T, s10, s11, hb, ⟨x, hx⟩, q10, q11 => by
    have e1 := tb1 (rs := rs) (lk := lk) (i := i) (s11 := s11) h1 hc ha (show b < n by omega) hx q4 q5 q6 q12 q13
    obtain ⟨x', hx', _⟩ := stT_mono (a := a) (b := b) (m := c) (T := T) a c x hx
    obtain ⟨s10', s11', r10, r11, e2⟩ := tb1L h1 hc ha q4 q5 q6 q12 q13 k (b + 1) (stT c a b T) (.val (.int (b : Int))) (.val (oD (T c b))) (by omega) ⟨x', hx'⟩ (Qt.i _) (Qt.o _)
    refine ⟨s10', s11', r10, r11, ?_⟩
    show loopF (B__law_table_1 a (En (.int i) rs n T lk s4 s5 s6 (.val (.lst (rowT' n T a))) (.val (.int (c : Int))) (.val (.int (a : Int))) (.val (.int (b : Int))) s11 s12 s13) none) _ _ _ = _
    rw [e1]
    exact e2
theorem rowT_none {c a : Nat} (h : T a c = none) : ∀ bs : List Nat, rowT c a bs T = T
  | [] => rfl
  | b :: bs => by
    have : stT c a b T = T := by unfold stT; rw [h]
    show rowT c a bs (stT c a b T) = T
    rw [this]
    exact rowT_none h bs
theorem tb2L (h1 : 1 ≤ n) (hi : i + 1 = (n : Int)) (h9 : n ≤ 100) {c : Nat} (hc : c < n) (q4 : Qt s4) (q5 : Qt s5) (q6 : Qt s6) (q12 : Qt s12) (q13 : Qt s13) : ∀ (k a : Nat) (T : Tb) (s7 s9 s10 s11 : Slot), a + k ≤ n → Qt s9 → Qt s10 → Qt s11 → ∃ s7' s9' s10' s11' : Slot, Qt s9' ∧ Qt s10' ∧ Qt s11' ∧ forL (gN 9) B__law_table_2 (rng a k) (En (.int i) rs n T lk s4 s5 s6 s7 (.val (.int (c : Int))) s9 s10 s11 s12 s13) none = .nx (En (.int i) rs n (allT c (List.range' a k) (List.range n) T) lk s4 s5 s6 s7' (.val (.int (c : Int))) s9' s10' s11' s12 s13) none
  | 0, a, T, s7, s9, s10, s11, _, q9, q10, q11 => ⟨s7, s9, s10, s11, q9, q10, q11, rfl⟩
  | k + 1, a, T, s7, s9, s10, s11, hb, q9, q10, q11 => by
    have ha : a < n := by omega
    have rc := row_at (T := T) (a := a) hc
    have rg : rangeM (.int 0) (.int (n : Int)) none = .ok (rng 0 n) none := range0 n (by omega)
    have sa := fun (s : Nat → SF) => sAli_v (rs := rs) (T := T) (lk := lk) (i := i) (s4 := s4) (s5 := s5) (s6 := s6) (s7 := s7) (s8 := .val (.int (c : Int))) (s9 := .val (.int (a : Int))) (s10 := s10) (s11 := s11) (s12 := s12) (s13 := s13) ha (fj := eVar 9) (s := s) rfl
    cases e : T a c with
    | none =>
      obtain ⟨s7', s9', s10', s11', r9, r10, r11, e2⟩ := tb2L h1 hi h9 hc q4 q5 q6 q12 q13 k (a + 1) T (.val (.lst (rowT' n T a))) (.val (.int (a : Int))) s10 s11 (by omega) (Qt.i _) q10 q11
      have er : allT c (List.range' a (k + 1)) (List.range n) T = allT c (List.range' (a + 1) k) (List.range n) T := by
        show allT c (List.range' (a + 1) k) (List.range n) (rowT c a (List.range n) T) = _
        rw [rowT_none e]
      rw [er]
      refine ⟨s7', s9', s10', s11', r9, r10, r11, ?_⟩
      show loopF (B__law_table_2 (En (.int i) rs n T lk s4 s5 s6 s7 (.val (.int (c : Int))) (.val (.int (a : Int))) s10 s11 s12 s13) none) _ _ _ = _
      rw [B__law_table_2_w, sa]
      rw [e] at rc
      simp? only [Nat.reduceSub, Nat.reduceAdd, rc, oD]
      exact e2
    | some x =>
      obtain ⟨t10, t11, u10, u11, e1⟩ := tb1L (rs := rs) (lk := lk) (i := i) h1 hc ha q4 q5 q6 q12 q13 n 0 T s10 s11 (by omega) ⟨x, e⟩ q10 q11
      rw [← List.range_eq_range'] at e1
      obtain ⟨s7', s9', s10', s11', r9, r10, r11, e2⟩ := tb2L h1 hi h9 hc q4 q5 q6 q12 q13 k (a + 1) (rowT c a (List.range n) T) (.val (.lst (rowT' n (rowT c a (List.range n) T) a))) (.val (.int (a : Int))) t10 t11 (by omega) (Qt.i _) u10 u11
      refine ⟨s7', s9', s10', s11', r9, r10, r11, ?_⟩
      show loopF (B__law_table_2 (En (.int i) rs n T lk s4 s5 s6 s7 (.val (.int (c : Int))) (.val (.int (a : Int))) s10 s11 s12 s13) none) _ _ _ = _
      rw [B__law_table_2_w, sa]
      rw [e] at rc
      simp? only [Nat.reduceSub, Nat.reduceAdd, rc, oD, hi, rg, ↓e1]
      exact e2
theorem tb3L (h1 : 1 ≤ n) (hi : i + 1 = (n : Int)) (h9 : n ≤ 100) (q4 : Qt s4) (q5 : Qt s5) (q6 : Qt s6) (q12 : Qt s12) (q13 : Qt s13) : ∀ (k c : Nat) (T : Tb) (s7 s8 s9 s10 s11 : Slot), c + k ≤ n → Qt s9 → Qt s10 → Qt s11 → ∃ s7' s8' s9' s10' s11' : Slot, forL (gN 8) B__law_table_3 (rng c k) (En (.int i) rs n T lk s4 s5 s6 s7 s8 s9 s10 s11 s12 s13) none = .nx (En (.int i) rs n (fwT n (List.range' c k) T) lk s4 s5 s6 s7' s8' s9' s10' s11' s12 s13) none
  | 0, c, T, s7, s8, s9, s10, s11, _, q9, q10, q11 => ⟨s7, s8, s9, s10, s11, rfl⟩
  | k + 1, c, T, s7, s8, s9, s10, s11, hb, q9, q10, q11 => by
    have hc : c < n := by omega
    have rg : rangeM (.int 0) (.int (n : Int)) none = .ok (rng 0 n) none := range0 n (by omega)
    obtain ⟨t7, t9, t10, t11, u9, u10, u11, e1⟩ := tb2L (rs := rs) (lk := lk) (i := i) h1 hi h9 hc q4 q5 q6 q12 q13 n 0 T s7 s9 s10 s11 (by omega) q9 q10 q11
    rw [← List.range_eq_range'] at e1
    obtain ⟨s7', s8', s9', s10', s11', e2⟩ := tb3L h1 hi h9 q4 q5 q6 q12 q13 k (c + 1) (allT c (List.range n) (List.range n) T) t7 (.val (.int (c : Int))) t9 t10 t11 (by omega) u9 u10 u11
    refine ⟨s7', s8', s9', s10', s11', ?_⟩
    show loopF (B__law_table_3 (En (.int i) rs n T lk s4 s5 s6 s7 (.val (.int (c : Int))) s9 s10 s11 s12 s13) none) _ _ _ = _
    rw [B__law_table_3_w]
    simp? only [Nat.reduceSub, Nat.reduceAdd, hi, rg, ↓e1]
    exact e2
end
end K49
namespace K49
open PySem FL GB
variable {w : Wd}
theorem rng_len (n : Nat) : (rng 0 n).length = n := by rw [rng_map, List.length_map, List.length_range]
theorem noLst_links : ∀ l : Lk, noLstL (l.map lkD) = true
  | [] => rfl
  | x :: l => by
    show (noLst (lkD x) && noLstL (l.map lkD)) = true
    rw [noLst_links l]; rfl
theorem unl_links {l : Lk} (h : l ≠ []) {ys : List D} (hy : ∀ d ∈ ys, kd d ≠ 4 ∧ kd d ≠ 9) : unlL (l.map lkD) ys = true := by
  cases l with
  | nil => exact absurd rfl h
  | cons x l =>
    cases ys with
    | nil => rfl
    | cons y ys =>
      have z : unl1 (lkD x) y = true := by
        have := hy y (List.mem_cons_self ..)
        cases y with
        | tup => exact absurd rfl this.1
        | hand => exact absurd rfl this.2
        | _ => rfl
      show (unl1 (lkD x) y || unlL _ ys) = true
      rw [z]; rfl
theorem kd_o (o : Option Int) : kd (oD o) ≠ 4 ∧ kd (oD o) ≠ 9 := by
  cases o with
  | none => exact ⟨by show (0 : Nat) ≠ 4; decide, by show (0 : Nat) ≠ 9; decide⟩
  | some i => exact ⟨by show (2 : Nat) ≠ 4; decide, by show (2 : Nat) ≠ 9; decide⟩
def In' (m : Nat) (rs : List Rw) : Prop := ∀ r ∈ rs, r.lo < r.hi ∧ r.hi ≤ m
theorem links_in {m : Nat} {rs : List Rw} (h : In' m rs) : In (linksL m rs) (m + 1) := fun l hl => by
  unfold linksL at hl
  rcases List.mem_append.mp hl with hl | hl
  · rcases List.mem_append.mp hl with hl | hl
    · obtain ⟨r, hr, rfl⟩ := List.mem_map.mp hl
      have := h r hr
      exact ⟨by show r.lo < _; omega, by show r.hi < _; omega⟩
    · obtain ⟨r, hr, rfl⟩ := List.mem_map.mp hl
      have := h r hr
      exact ⟨by show r.hi < _; omega, by show r.lo < _; omega⟩
  · obtain ⟨a, ha, rfl⟩ := List.mem_map.mp hl
    have := List.mem_range.mp ha
    exact ⟨by show a + 1 < _; omega, by show a < _; omega⟩
theorem law_table_w {m : Nat} (m1 : 1 ≤ m) (m8 : m ≤ 8) {rs : List Rw} (hr : In' m rs) (hl : rs.length ≤ 100) : F__law_table [.int (m : Int), .lst (rs.map rwD)] none = .ok (.lst (tabD (m + 1) (tabL (m + 1) (linksL m rs)))) none := by
  have hi : (m : Int) + 1 = ((m + 1 : Nat) : Int) := by omega
  have rg : rangeM (.int 0) (.int ((m + 1 : Nat) : Int)) none = .ok (rng 0 (m + 1)) none := range0 (m + 1) (by omega)
  have rgm : rangeM (.int 0) (.int (m : Int)) none = .ok (rng 0 m) none := range0 m (by omega)
  have ll : (rng 0 (m + 1)).length ≤ line := le_line (by rw [rng_len]; omega)
  have llm : (rng 0 m).length ≤ line := le_line (by rw [rng_len]; omega)
  have lr : (rs.map rwD).length ≤ line := le_line (by rw [List.length_map]; omega)
  -- the start
  have inner : ∀ (a : Nat) (s2 s3 s4 s5 s6 s7 s8 s10 s11 s12 s13 : Slot), lcL (gN 10) tYes (eIf (tVal (eBin eqD (eVar 9) (eVar 10))) (eC (.int 0)) (eC .non)) [.val (.int (m : Int)), .val (.lst (rs.map rwD)), s2, s3, s4, s5, s6, s7, s8, .val (.int (a : Int)), s10, s11, s12, s13] (rng 0 (m + 1)) none = .ok (rowT' (m + 1) T0 a) none := fun a s2 s3 s4 s5 s6 s7 s8 s10 s11 s12 s13 => by
    rw [rng_map]
    unfold rowT'
    refine lcMap (f := fun (k : Nat) => D.int (k : Int)) (g := fun b => oD (T0 a b)) 10 _ (List.range (m + 1)) fun b _ => ?_
    by_cases e : a = b
    · subst e
      have : T0 a a = some 0 := by unfold T0; rw [if_pos rfl]
      simp? only [Nat.reduceSub, Nat.reduceAdd, this, oD, beq_self_eq_true]
    · have : T0 a b = none := by unfold T0; rw [if_neg e]
      have c : ((a : Int) == (b : Int)) = false := beq_eq_false_iff_ne.mpr (by omega)
      simp? only [Nat.reduceSub, Nat.reduceAdd, this, oD, c]
  have outer : ∀ (s2 s3 s4 s5 s6 s7 s8 s9 s10 s11 s12 s13 : Slot), lcL (gN 9) tYes (eNew (nLc (iRng (eC (.int 0)) (eBin addD (eVar 0) (eC (.int 1)))) [10] (gN 10) tYes (eIf (tVal (eBin eqD (eVar 9) (eVar 10))) (eC (.int 0)) (eC .non)))) [.val (.int (m : Int)), .val (.lst (rs.map rwD)), s2, s3, s4, s5, s6, s7, s8, s9, s10, s11, s12, s13] (rng 0 (m + 1)) none = .ok (tabD (m + 1) T0) none := fun s2 s3 s4 s5 s6 s7 s8 s9 s10 s11 s12 s13 => by
    rw [rng_map]
    unfold tabD
    refine lcMap (f := fun (k : Nat) => D.int (k : Int)) (g := fun a => D.lst (rowT' (m + 1) T0 a)) 9 _ (List.range (m + 1)) fun a _ => ?_
    simp? only [Nat.reduceSub, Nat.reduceAdd, hi, rg, lcM_v _ _ _ _ ll, inner]
  have nest : sNest 2 (nLc (iRng (eC (.int 0)) (eBin addD (eVar 0) (eC (.int 1)))) [9] (gN 9) tYes (eNew (nLc (iRng (eC (.int 0)) (eBin addD (eVar 0) (eC (.int 1)))) [10] (gN 10) tYes (eIf (tVal (eBin eqD (eVar 9) (eVar 10))) (eC (.int 0)) (eC .non))))) [.val (.int (m : Int)), .val (.lst (rs.map rwD)), .none, .none, .none, .none, .none, .none, .none, .none, .none, .none, .none, .none] none = .nx [.val (.int (m : Int)), .val (.lst (rs.map rwD)), .nest (tabD (m + 1) T0), .none, .none, .none, .none, .none, .none, .none, .none, .none, .none, .none] none := by
    have e : (nLc (iRng (eC (.int 0)) (eBin addD (eVar 0) (eC (.int 1)))) [9] (gN 9) tYes (eNew (nLc (iRng (eC (.int 0)) (eBin addD (eVar 0) (eC (.int 1)))) [10] (gN 10) tYes (eIf (tVal (eBin eqD (eVar 9) (eVar 10))) (eC (.int 0)) (eC .non))))) [.val (.int (m : Int)), .val (.lst (rs.map rwD)), .none, .none, .none, .none, .none, .none, .none, .none, .none, .none, .none, .none] none = .ok (tabD (m + 1) T0) none := by
      simp? only [Nat.reduceSub, Nat.reduceAdd, hi, rg, lcM_v _ _ _ _ ll, outer]
    unfold sNest onE
    rw [e]
    rfl
  -- the links
  have l1 : ∀ (s2 s3 s4 s5 s6 s7 s8 s9 s10 s11 s12 s13 : Slot), lcL (gN 12) tYes (eTup [(eBin ixD (eVar 12) (eC (.int 0))), (eBin ixD (eVar 12) (eC (.int 1))), (eBin ixD (eVar 12) (eC (.int 3)))]) [.val (.int (m : Int)), .val (.lst (rs.map rwD)), s2, s3, s4, s5, s6, s7, s8, s9, s10, s11, s12, s13] (rs.map rwD) none = .ok ((rs.map fun r => (r.lo, r.hi, r.u)).map lkD) none := fun s2 s3 s4 s5 s6 s7 s8 s9 s10 s11 s12 s13 => by
    rw [List.map_map]
    exact lcMap (f := rwD) (g := lkD ∘ fun r => (r.lo, r.hi, r.u)) 12 _ rs fun r _ => by
      simp? only [Nat.reduceSub, Nat.reduceAdd, rwD]
      rfl
  have l2 : ∀ (s2 s3 s4 s5 s6 s7 s8 s9 s10 s11 s12 s13 : Slot), lcL (gN 12) tYes (eTup [(eBin ixD (eVar 12) (eC (.int 1))), (eBin ixD (eVar 12) (eC (.int 0))), (eUn negD (eBin ixD (eVar 12) (eC (.int 2))))]) [.val (.int (m : Int)), .val (.lst (rs.map rwD)), s2, s3, s4, s5, s6, s7, s8, s9, s10, s11, s12, s13] (rs.map rwD) none = .ok ((rs.map fun r => (r.hi, r.lo, -r.l)).map lkD) none := fun s2 s3 s4 s5 s6 s7 s8 s9 s10 s11 s12 s13 => by
    rw [List.map_map]
    exact lcMap (f := rwD) (g := lkD ∘ fun r => (r.hi, r.lo, -r.l)) 12 _ rs fun r _ => by
      simp? only [Nat.reduceSub, Nat.reduceAdd, rwD]
      rfl
  have l3 : ∀ (s2 s3 s4 s5 s6 s7 s8 s9 s10 s11 s12 s13 : Slot), lcL (gN 13) tYes (eTup [(eBin addD (eVar 13) (eC (.int 1))), (eVar 13), (eC (.int 0))]) [.val (.int (m : Int)), .val (.lst (rs.map rwD)), s2, s3, s4, s5, s6, s7, s8, s9, s10, s11, s12, s13] (rng 0 m) none = .ok (((List.range m).map fun a => (a + 1, a, (0 : Int))).map lkD) none := fun s2 s3 s4 s5 s6 s7 s8 s9 s10 s11 s12 s13 => by
    rw [rng_map, List.map_map]
    exact lcMap (f := fun (k : Nat) => D.int (k : Int)) (g := lkD ∘ fun a => (a + 1, a, (0 : Int))) 13 _ (List.range m) fun a _ => by
      simp? only [Nat.reduceSub, Nat.reduceAdd]
      show R.ok (D.tup [.int ((a : Int) + 1), .int (a : Int), .int 0]) none = R.ok (D.tup [.int ((a + 1 : Nat) : Int), .int (a : Int), .int 0]) none
      rw [show ((a + 1 : Nat) : Int) = (a : Int) + 1 by omega]
  have a1 : ((rs.map fun r => (r.lo, r.hi, r.u)).map lkD).length + ((rs.map fun r => (r.hi, r.lo, -r.l)).map lkD).length ≤ line := le_line (by simp only [List.length_map]; omega)
  have a2 : ((rs.map fun r => (r.lo, r.hi, r.u)).map lkD ++ (rs.map fun r => (r.hi, r.lo, -r.l)).map lkD).length + (((List.range m).map fun a => (a + 1, a, (0 : Int))).map lkD).length ≤ line := le_line (by simp only [List.length_append, List.length_map, List.length_range]; omega)
  have em : (rs.map fun r => (r.lo, r.hi, r.u)).map lkD ++ (rs.map fun r => (r.hi, r.lo, -r.l)).map lkD ++ ((List.range m).map fun a => (a + 1, a, (0 : Int))).map lkD = (linksL m rs).map lkD := by
    unfold linksL
    rw [List.map_append, List.map_append]
  have lin := links_in hr
  have lne : linksL m rs ≠ [] := by
    unfold linksL
    intro z
    have := congrArg List.length z
    simp only [List.length_append, List.length_map, List.length_range, List.length_nil] at this
    omega
  -- along the links
  obtain ⟨s4, s5, s6, s7, q4, q5, q6, f1⟩ := tbL (rs := rs) (lk := linksL m rs) (i := (m : Int)) (n := m + 1) (by omega) (s8 := .none) (s9 := .none) (s10 := .none) (s11 := .none) (s12 := .none) (s13 := .none) Qt.n Qt.n Qt.n Qt.n Qt.n Qt.n (linksL m rs) T0 .none .none .none .none lin Qt.n Qt.n Qt.n
  have c1 : noLstL ((linksL m rs).map lkD) = true := noLst_links _
  have c2 : (En (.int (m : Int)) rs (m + 1) T0 (linksL m rs) .none .none .none .none .none .none .none .none .none .none).all (unlS ((linksL m rs).map lkD)) = true := by
    have : unlS ((linksL m rs).map lkD) (.nest (tabD (m + 1) T0)) = true := by
      unfold unlS
      simp only
      rw [unl_links lne fun d hd => by
        obtain ⟨a, _, rfl⟩ := List.mem_map.mp hd
        exact ⟨by show (5 : Nat) ≠ 4; decide, by show (5 : Nat) ≠ 9; decide⟩, Bool.true_and, List.all_eq_true]
      intro d hd
      obtain ⟨a, _, rfl⟩ := List.mem_map.mp hd
      show unlL ((linksL m rs).map lkD) (rowT' (m + 1) T0 a) = true
      exact unl_links lne fun d hd => by
        obtain ⟨b, _, rfl⟩ := List.mem_map.mp hd
        exact kd_o _
    simp only [List.all_cons, List.all_nil, this]
    rfl
  have f1' : sForL (eVar 3) (gT [4, 5, 6]) B__law_table_0 [.val (.int (m : Int)), .val (.lst (rs.map rwD)), .nest (tabD (m + 1) T0), .val (.lst ((linksL m rs).map lkD)), .none, .none, .none, .none, .none, .none, .none, .none, .none, .none] none = .nx (En (.int (m : Int)) rs (m + 1) (initT (linksL m rs)) (linksL m rs) s4 s5 s6 s7 .none .none .none .none .none .none) none := by
    have e : M.bind (eVar 3 (En (.int (m : Int)) rs (m + 1) T0 (linksL m rs) .none .none .none .none .none .none .none .none .none .none)) seqOf none = .ok ((linksL m rs).map lkD) none := rfl
    unfold sForL onE
    rw [e]
    simp only
    rw [if_pos (by rw [c1, c2]; rfl)]
    exact f1
  -- by all marks
  obtain ⟨t7, t8, t9, t10, t11, f2⟩ := tb3L (rs := rs) (lk := linksL m rs) (i := (m : Int)) (n := m + 1) (by omega) hi (by omega) q4 q5 q6 (s12 := .none) (s13 := .none) Qt.n Qt.n (m + 1) 0 (initT (linksL m rs)) s7 .none .none .none .none (by omega) Qt.n Qt.n Qt.n
  rw [← List.range_eq_range'] at f2
  have en : eVar 2 (En (.int (m : Int)) rs (m + 1) (fwT (m + 1) (List.range (m + 1)) (initT (linksL m rs))) (linksL m rs) s4 s5 s6 t7 t8 t9 t10 t11 .none .none) none = .ok (.lst (tabD (m + 1) (tabL (m + 1) (linksL m rs)))) none := eNest rfl
  unfold F__law_table
  simp? only [Nat.reduceSub, Nat.reduceAdd, ↓nest, lcM_v _ _ _ _ lr, l1, l2, add_lst a1, rgm, lcM_v _ _ _ _ llm, l3, add_lst a2, em, ↓f1', hi, rg, ↓f2, ↓en]
end K49
namespace K49
open PySem FL GB
variable {w : Wd}
theorem len_c {c : List D → D} (hc : c = D.lst ∨ c = D.tup) (xs : List D) : lenD (c xs) w = .ok (.int (xs.length : Int)) w := by rcases hc with rfl | rfl <;> rfl
theorem isi_c {c : List D → D} (hc : c = D.lst ∨ c = D.tup) (xs : List D) : isiB [.list, .tuple] (c xs) w = .ok (.bl true) w := hc.elim (fun z => (by rw [z]; exact isi_lt_l _)) (fun z => (by rw [z]; exact isi_lt_t _))
theorem seq_c {c : List D → D} (hc : c = D.lst ∨ c = D.tup) (xs : List D) : seqOf (c xs) w = .ok xs w := by rcases hc with rfl | rfl <;> rfl
theorem check_count_w {m : Nat} (m1 : 1 ≤ m) (m8 : m ≤ 8) : F_check_count [.int (m : Int)] w = .ok .non w := by
  have c : decide (1 ≤ (m : Int) ∧ (m : Int) ≤ 8) = true := decide_eq_true (by omega)
  unfold F_check_count
  simp? only [Nat.reduceSub, Nat.reduceAdd, whole_lh, c]
theorem are_marks_w {m lo hi : Nat} (h1 : lo < hi) (h2 : hi ≤ m) : F_are_marks [.int (m : Int), .int (lo : Int), .int (hi : Int)] w = .ok (.bl true) w := by
  have c1 : decide (0 ≤ (lo : Int) ∧ (lo : Int) ≤ (m : Int)) = true := decide_eq_true (by omega)
  have c2 : decide (0 ≤ (hi : Int) ∧ (hi : Int) ≤ (m : Int)) = true := decide_eq_true (by omega)
  have c3 : decide ((lo : Int) < (hi : Int)) = true := decide_eq_true (by omega)
  unfold F_are_marks
  simp? only [Nat.reduceSub, Nat.reduceAdd, whole_lh, c1, c2, c3]
theorem check_marks_w {m lo hi : Nat} (h1 : lo < hi) (h2 : hi ≤ m) : F_check_marks [.int (m : Int), .int (lo : Int), .int (hi : Int)] w = .ok .non w := by
  have a := fun w : Wd => are_marks_w (w := w) h1 h2
  unfold F_check_marks
  simp? only [Nat.reduceSub, Nat.reduceAdd, ↓a]
theorem q_sz {a b : Int} (ha : -20000 ≤ a ∧ a ≤ 20000) (hb : 1 ≤ b ∧ b ≤ 20) : SzQ 16 (Rat.divInt a b) := (bq_div (n := 20000) (m := 20) (by omega) (by omega) (by omega)).sz (by decide) (by decide)
theorem div_le {a c b : Int} (hb : 0 < b) (h : a ≤ c) : Rat.divInt a b ≤ Rat.divInt c b := by
  rw [Rat.divInt_eq_div, Rat.divInt_eq_div, Rat.div_def, Rat.div_def]
  refine Rat.mul_le_mul_of_nonneg_right (by exact_mod_cast h) (Rat.le_of_lt (Rat.inv_pos.mpr (by exact_mod_cast hb)))
theorem div_lt {a c b : Int} (hb : 0 < b) (h : a < c) : Rat.divInt a b < Rat.divInt c b := by
  rw [Rat.divInt_eq_div, Rat.divInt_eq_div, Rat.div_def, Rat.div_def]
  exact Rat.mul_lt_mul_of_pos_right (by exact_mod_cast h) (Rat.inv_pos.mpr (by exact_mod_cast hb))
theorem ctL {m : Nat} {p : Nat → Int} {b : Int} (hb : 1 ≤ b ∧ b ≤ 3) {s1 : Slot} : ∀ (rs : List Rw) (k : Nat) (s2 s3 : Slot), (∀ r ∈ rs, Ok m p r) → ∃ s2' s3' : Slot, forL (gT [2, 3]) B_check_tellings_0 (enumAt k (rs.map (tlD b))) [.val (.int (m : Int)), s1, s2, s3] w = .nx [.val (.int (m : Int)), s1, s2', s3'] w
  | [], k, s2, s3, _ => ⟨s2, s3, rfl⟩
  | r :: rs, k, s2, s3, h => by
    have o := h r (List.mem_cons_self ..)
    obtain ⟨s2', s3', e⟩ := ctL hb (s1 := s1) rs (k + 1) (.val (.int (k : Int))) (.val (tlD b r)) fun x hx => h x (List.mem_cons_of_mem _ hx)
    refine ⟨s2', s3', ?_⟩
    have am := fun w : Wd => are_marks_w (w := w) o.lt o.le
    have ir := fun (q : Rat) (w : Wd) => isr_q (w := w) q
    have bl := o.bl
    have bu := o.bu
    have cm := fun w : Wd => compare_q (w := w) (q_sz (a := r.l) (b := b) (by omega) (by omega)) (q_sz (a := r.u) (b := b) (by omega) (by omega)) (by decide)
    have le : r.l ≤ r.u := Int.le_trans o.low o.upp
    have c0 : decide (0 < cmpQ (Rat.divInt r.l b) (Rat.divInt r.u b)) = false := by
      refine decide_eq_false ?_
      have := div_le (b := b) (by omega) le
      unfold cmpQ
      split
      · decide
      · rw [if_neg (Rat.not_lt.mpr this)]; decide
    show forL (gT [2, 3]) B_check_tellings_0 (.tup [.int (k : Int), tlD b r] :: enumAt (k + 1) (rs.map (tlD b))) _ w = _
    rw [forT2]
    have nq : neD (.int 4) (.int 4) w = .ok (.bl false) w := ne_same rfl
    simp? only [Nat.reduceSub, Nat.reduceAdd, B_check_tellings_0_w, tlD, Int.cast_ofNat_Int, ↓nq, ↓am, ↓ir, ↓cm, c0]
    exact e
theorem check_tellings_w {m : Nat} (m1 : 1 ≤ m) (m8 : m ≤ 8) {p : Nat → Int} {b : Int} (hb : 1 ≤ b ∧ b ≤ 3) {rs : List Rw} (h : ∀ r ∈ rs, Ok m p r) (hl : rs.length ≤ 24) {c : List D → D} (hc : c = D.lst ∨ c = D.tup) : F_check_tellings [.int (m : Int), c (rs.map (tlD b))] w = .ok (.tup (rs.map (tlD b))) w := by
  have cc := fun w : Wd => check_count_w (w := w) m1 m8
  have ic := fun w : Wd => isi_c (w := w) hc (rs.map (tlD b))
  have lc := fun w : Wd => len_c (w := w) hc (rs.map (tlD b))
  have sc := fun w : Wd => seq_c (w := w) hc (rs.map (tlD b))
  have c24 : decide ((24 : Int) < (rs.length : Int)) = false := decide_eq_false (by omega)
  obtain ⟨s2, s3, e⟩ := ctL (w := w) hb (s1 := .val (c (rs.map (tlD b)))) rs 0 .none .none h
  have ll : (rs.map (tlD b)).length ≤ line := le_line (by rw [List.length_map]; omega)
  have lcm : ∀ s2 : Slot, lcL (gN 3) tYes (eTup [(eBin ixD (eVar 3) (eC (.int 0))), (eBin ixD (eVar 3) (eC (.int 1))), (eBin ixD (eVar 3) (eC (.int 2))), (eBin ixD (eVar 3) (eC (.int 3)))]) [.val (.int (m : Int)), .val (c (rs.map (tlD b))), s2, .none] (rs.map (tlD b)) w = .ok (rs.map (tlD b)) w := fun s2 =>
    lcMap (f := tlD b) (g := tlD b) 3 _ rs fun r _ => by
      simp? only [Nat.reduceSub, Nat.reduceAdd, tlD]
  unfold F_check_tellings
  simp? only [Nat.reduceSub, Nat.reduceAdd, ↓cc, ↓ic, ↓lc, List.length_map, c24, ↓sc, e, lcM_v _ _ _ _ ll, lcm]
def tiD (t : Nat × Nat) : D := .tup [.int t.1, .int t.2]
theorem ctiL {m : Nat} {s1 : Slot} : ∀ (ts : List (Nat × Nat)) (k : Nat) (s2 s3 : Slot), (∀ t ∈ ts, t.1 < t.2 ∧ t.2 ≤ m) → ∃ s2' s3' : Slot, forL (gT [2, 3]) B_check_ties_0 (enumAt k (ts.map tiD)) [.val (.int (m : Int)), s1, s2, s3] w = .nx [.val (.int (m : Int)), s1, s2', s3'] w
  | [], k, s2, s3, _ => ⟨s2, s3, rfl⟩
  | t :: ts, k, s2, s3, h => by
    have o := h t (List.mem_cons_self ..)
    obtain ⟨s2', s3', e⟩ := ctiL (s1 := s1) ts (k + 1) (.val (.int (k : Int))) (.val (tiD t)) fun x hx => h x (List.mem_cons_of_mem _ hx)
    refine ⟨s2', s3', ?_⟩
    have am := fun w : Wd => are_marks_w (w := w) o.1 o.2
    show forL (gT [2, 3]) B_check_ties_0 (.tup [.int (k : Int), tiD t] :: enumAt (k + 1) (ts.map tiD)) _ w = _
    rw [forT2]
    have nq : neD (.int 2) (.int 2) w = .ok (.bl false) w := ne_same rfl
    simp? only [Nat.reduceSub, Nat.reduceAdd, B_check_ties_0_w, tiD, Int.cast_ofNat_Int, ↓nq, ↓am]
    exact e
theorem check_ties_w {m : Nat} (m1 : 1 ≤ m) (m8 : m ≤ 8) {ts : List (Nat × Nat)} (h : ∀ t ∈ ts, t.1 < t.2 ∧ t.2 ≤ m) (hl : ts.length ≤ 24) {c : List D → D} (hc : c = D.lst ∨ c = D.tup) : F_check_ties [.int (m : Int), c (ts.map tiD)] w = .ok (.tup (ts.map tiD)) w := by
  have cc := fun w : Wd => check_count_w (w := w) m1 m8
  have ic := fun w : Wd => isi_c (w := w) hc (ts.map tiD)
  have lc := fun w : Wd => len_c (w := w) hc (ts.map tiD)
  have sc := fun w : Wd => seq_c (w := w) hc (ts.map tiD)
  have c24 : decide ((24 : Int) < (ts.length : Int)) = false := decide_eq_false (by omega)
  obtain ⟨s2, s3, e⟩ := ctiL (w := w) (s1 := .val (c (ts.map tiD))) ts 0 .none .none h
  have ll : (ts.map tiD).length ≤ line := le_line (by rw [List.length_map]; omega)
  have lcm : ∀ s2 : Slot, lcL (gN 3) tYes (eTup [(eBin ixD (eVar 3) (eC (.int 0))), (eBin ixD (eVar 3) (eC (.int 1)))]) [.val (.int (m : Int)), .val (c (ts.map tiD)), s2, .none] (ts.map tiD) w = .ok (ts.map tiD) w := fun s2 =>
    lcMap (f := tiD) (g := tiD) 3 _ ts fun r _ => by
      simp? only [Nat.reduceSub, Nat.reduceAdd, tiD]
  unfold F_check_ties
  simp? only [Nat.reduceSub, Nat.reduceAdd, ↓cc, ↓ic, ↓lc, List.length_map, c24, ↓sc, e, lcM_v _ _ _ _ ll, lcm]
end K49
namespace K49
open PySem FL GB
variable {w : Wd}
structure Bn where
  nm : D
  b : Nat
  e : Nat
  q : Rat
def bnD (x : Bn) : D := .tup [x.nm, .int x.b, .int x.e, rq x.q]
def bndT (b : Int) : Nat → List Rw → List Bn
  | _, [] => []
  | k, r :: rs => ⟨.tup [.str "most", .int (k : Int)], r.lo, r.hi, Rat.divInt r.u b⟩ :: ⟨.tup [.str "least", .int (k : Int)], r.hi, r.lo, -Rat.divInt r.l b⟩ :: bndT b (k + 1) rs
def wBn (a : Nat) : Bn := ⟨.tup [.str "weight", .int (a : Int)], a + 1, a, 0⟩
def bndW (m : Nat) : List Bn := (List.range m).map wBn
def bndL (b : Int) (m : Nat) (rs : List Rw) : List Bn := bndT b 0 rs ++ bndW m
theorem negative_w (q : Rat) : F_negative [rq q] w = .ok (rq (-q)) w := by
  unfold F_negative
  simp? only [Nat.reduceSub, Nat.reduceAdd, rq]
  rfl
theorem bndT_len (b : Int) : ∀ (k : Nat) (rs : List Rw), (bndT b k rs).length = 2 * rs.length
  | _, [] => rfl
  | k, r :: rs => by
    show (bndT b (k + 1) rs).length + 1 + 1 = 2 * (rs.length + 1)
    rw [bndT_len b (k + 1) rs]; omega
theorem bnd_len (b : Int) (m : Nat) (rs : List Rw) : (bndL b m rs).length = 2 * rs.length + m := by
  unfold bndL bndW
  rw [List.length_append, bndT_len, List.length_map, List.length_range]
theorem bb0 {b : Int} {s0 s1 s8 : Slot} : ∀ (rs : List Rw) (k : Nat) (xs : List Bn) (s3 s4 s5 s6 s7 : Slot), xs.length + 2 * rs.length ≤ 100 → ∃ s3' s4' s5' s6' s7' : Slot, forL (gTN 3 [4, 5, 6, 7]) B_bounds_by_0 (enumAt k (rs.map (tlD b))) [s0, s1, .own (xs.map bnD), s3, s4, s5, s6, s7, s8] w = .nx [s0, s1, .own ((xs ++ bndT b k rs).map bnD), s3', s4', s5', s6', s7', s8] w
  | [], k, xs, s3, s4, s5, s6, s7, _ => ⟨s3, s4, s5, s6, s7, by
    show _ = SR.nx [s0, s1, .own ((xs ++ []).map bnD), s3, s4, s5, s6, s7, s8] w
    rw [List.append_nil]; rfl⟩
  | r :: rs, k, xs, s3, s4, s5, s6, s7, hl => by
    rw [List.length_cons] at hl
    obtain ⟨s3', s4', s5', s6', s7', e⟩ := bb0 (b := b) (s0 := s0) (s1 := s1) (s8 := s8) rs (k + 1) (xs ++ [⟨.tup [.str "most", .int (k : Int)], r.lo, r.hi, Rat.divInt r.u b⟩, ⟨.tup [.str "least", .int (k : Int)], r.hi, r.lo, -Rat.divInt r.l b⟩]) (.val (.int (k : Int))) (.val (.int (r.lo : Int))) (.val (.int (r.hi : Int))) (.val (rq (Rat.divInt r.l b))) (.val (rq (Rat.divInt r.u b))) (by simp only [List.length_append, List.length_cons, List.length_nil]; omega)
    have ll1 : (xs.map bnD).length < line := lt_line (by rw [List.length_map]; omega)
    have ll2 : (xs.map bnD ++ [D.tup [.tup [.str "most", .int (k : Int)], .int (r.lo : Int), .int (r.hi : Int), rq (Rat.divInt r.u b)]]).length < line := lt_line (by rw [List.length_append, List.length_map, List.length_singleton]; omega)
    have em : xs.map bnD ++ [D.tup [.tup [.str "most", .int (k : Int)], .int (r.lo : Int), .int (r.hi : Int), rq (Rat.divInt r.u b)]] ++ [D.tup [.tup [.str "least", .int (k : Int)], .int (r.hi : Int), .int (r.lo : Int), rq (-Rat.divInt r.l b)]] = (xs ++ [(⟨.tup [.str "most", .int (k : Int)], r.lo, r.hi, Rat.divInt r.u b⟩ : Bn), ⟨.tup [.str "least", .int (k : Int)], r.hi, r.lo, -Rat.divInt r.l b⟩]).map bnD := by simp [bnD]
    have eb : xs ++ bndT b k (r :: rs) = xs ++ [(⟨.tup [.str "most", .int (k : Int)], r.lo, r.hi, Rat.divInt r.u b⟩ : Bn), ⟨.tup [.str "least", .int (k : Int)], r.hi, r.lo, -Rat.divInt r.l b⟩] ++ bndT b (k + 1) rs := by simp [bndT]
    refine ⟨s3', s4', s5', s6', s7', ?_⟩
    rw [eb]
    show forL (gTN 3 [4, 5, 6, 7]) B_bounds_by_0 (.tup [.int (k : Int), tlD b r] :: enumAt (k + 1) (rs.map (tlD b))) _ w = _
    rw [forG (ρ1 := [s0, s1, .own (xs.map bnD), .val (.int (k : Int)), .val (.int (r.lo : Int)), .val (.int (r.hi : Int)), .val (rq (Rat.divInt r.l b)), .val (rq (Rat.divInt r.u b)), s8]) rfl]
    have ng := fun (q : Rat) (w : Wd) => negative_w (w := w) q
    simp? only [Nat.reduceSub, Nat.reduceAdd, B_bounds_by_0_w, appK_v 2 _ ll1, ↓ng, appK_v 2 _ ll2, em]
    exact e
theorem bb1 {s0 s1 s3 s4 s5 s6 s7 : Slot} : ∀ (k a : Nat) (xs : List Bn) (s8 : Slot), xs.length + k ≤ 200 → ∃ s8' : Slot, forL (gN 8) B_bounds_by_1 (rng a k) [s0, s1, .own (xs.map bnD), s3, s4, s5, s6, s7, s8] w = .nx [s0, s1, .own ((xs ++ (List.range' a k).map wBn).map bnD), s3, s4, s5, s6, s7, s8'] w
  | 0, a, xs, s8, _ => ⟨s8, by
    show _ = SR.nx [s0, s1, .own ((xs ++ []).map bnD), s3, s4, s5, s6, s7, s8] w
    rw [List.append_nil]; rfl⟩
  | k + 1, a, xs, s8, hl => by
    obtain ⟨s8', e⟩ := bb1 (s0 := s0) (s1 := s1) (s3 := s3) (s4 := s4) (s5 := s5) (s6 := s6) (s7 := s7) k (a + 1) (xs ++ [wBn a]) (.val (.int (a : Int))) (by simp only [List.length_append, List.length_cons, List.length_nil]; omega)
    have ll : (xs.map bnD).length < line := lt_line (by rw [List.length_map]; omega)
    have em : xs.map bnD ++ [D.tup [.tup [.str "weight", .int (a : Int)], .int ((a : Int) + 1), .int (a : Int), .tup [.int 0, .int 1]]] = (xs ++ [wBn a]).map bnD := by
      rw [List.map_append]
      show _ = _ ++ [D.tup [.tup [.str "weight", .int (a : Int)], .int ((a + 1 : Nat) : Int), .int (a : Int), rq 0]]
      rw [show ((a + 1 : Nat) : Int) = (a : Int) + 1 by omega]; rfl
    have eb : xs ++ (List.range' a (k + 1)).map wBn = xs ++ [wBn a] ++ (List.range' (a + 1) k).map wBn := by simp [List.range'_succ]
    refine ⟨s8', ?_⟩
    rw [eb]
    show forL (gN 8) B_bounds_by_1 (D.int (a : Int) :: rng (a + 1) k) _ w = _
    simp? only [Nat.reduceSub, Nat.reduceAdd, B_bounds_by_1_w, appK_v 2 _ ll, em]
    exact e
theorem bounds_by_w {m : Nat} (m8 : m ≤ 8) {b : Int} {rs : List Rw} (hl : rs.length ≤ 24) {c : List D → D} (hc : c = D.lst ∨ c = D.tup) : F_bounds_by [.int (m : Int), c (rs.map (tlD b))] w = .ok (.lst ((bndL b m rs).map bnD)) w := by
  have sc := fun w : Wd => seq_c (w := w) hc (rs.map (tlD b))
  obtain ⟨s3, s4, s5, s6, s7, e0⟩ := bb0 (w := w) (b := b) (s0 := .val (.int (m : Int))) (s1 := .val (c (rs.map (tlD b)))) (s8 := .none) rs 0 [] .none .none .none .none .none (by simp; omega)
  rw [List.nil_append] at e0
  obtain ⟨s8, e1⟩ := bb1 (w := w) (s0 := .val (.int (m : Int))) (s1 := .val (c (rs.map (tlD b)))) (s3 := s3) (s4 := s4) (s5 := s5) (s6 := s6) (s7 := s7) m 0 (bndT b 0 rs) .none (by rw [bndT_len]; omega)
  rw [← List.range_eq_range'] at e1
  have rg := range0 (w := w) m (by omega)
  have eq : bndT b 0 rs ++ (List.range m).map wBn = bndL b m rs := rfl
  rw [eq] at e1
  rw [List.map_nil] at e0
  unfold F_bounds_by
  simp? only [Nat.reduceSub, Nat.reduceAdd, ↓sc, ↓e0, rg, ↓e1]
def botB (bs : List Bn) (B : Nat) : Nat := bs.foldl (fun B x => B.lcm x.q.den) B
theorem botB_dvd : ∀ (bs : List Bn) (B : Nat), B ∣ botB bs B ∧ ∀ x ∈ bs, x.q.den ∣ botB bs B
  | [], B => ⟨Nat.dvd_refl _, fun x hx => by cases hx⟩
  | y :: bs, B => by
    obtain ⟨h1, h2⟩ := botB_dvd bs (B.lcm y.q.den)
    refine ⟨Nat.dvd_trans (Nat.dvd_lcm_left ..) h1, fun x hx => ?_⟩
    rcases List.mem_cons.mp hx with rfl | hx
    · exact Nat.dvd_trans (Nat.dvd_lcm_right ..) h1
    · exact h2 x hx
theorem botB_min : ∀ (bs : List Bn) (B N : Nat), B ∣ N → (∀ x ∈ bs, x.q.den ∣ N) → botB bs B ∣ N
  | [], B, N, h, _ => h
  | y :: bs, B, N, h, k => botB_min bs _ N (Nat.lcm_dvd h (k y (List.mem_cons_self ..))) fun x hx => k x (List.mem_cons_of_mem _ hx)
theorem boL {N : Nat} (h0 : 0 < N) (h9 : N ≤ 9) {s0 : Slot} : ∀ (bs : List Bn) (B : Nat) (s2 : Slot), B ∣ N → (∀ x ∈ bs, x.q.den ∣ N) → ∃ s2' : Slot, forL (gN 2) B_bottom_of_0 (bs.map bnD) [s0, .val (.int (B : Int)), s2] w = .nx [s0, .val (.int (botB bs B : Int)), s2'] w
  | [], B, s2, _, _ => ⟨s2, rfl⟩
  | x :: bs, B, s2, h, k => by
    have kx := k x (List.mem_cons_self ..)
    have hl : B.lcm x.q.den ∣ N := Nat.lcm_dvd h kx
    obtain ⟨s2', e⟩ := boL h0 h9 (s0 := s0) bs (B.lcm x.q.den) (.val (bnD x)) hl fun y hy => k y (List.mem_cons_of_mem _ hy)
    refine ⟨s2', ?_⟩
    have b1 := Nat.le_of_dvd h0 h
    have b2 := Nat.le_of_dvd h0 kx
    have b3 := Nat.le_of_dvd h0 hl
    have sm : ∀ n : Nat, n ≤ 9 → 0 < n → small13 n := fun n h1 h2 => by
      have : n = 1 ∨ n = 2 ∨ n = 3 ∨ n = 4 ∨ n = 5 ∨ n = 6 ∨ n = 7 ∨ n = 8 ∨ n = 9 := by omega
      rcases this with rfl | rfl | rfl | rfl | rfl | rfl | rfl | rfl | rfl <;> decide
    have lc : ∀ w : Wd, lcmD [.int (B : Int), .int (x.q.den : Int)] w = .ok (.int ((B.lcm x.q.den : Nat) : Int)) w := fun w => by
      have e : lcmD [.int (B : Int), .int (x.q.den : Int)] = if small13 (B : Int).natAbs ∧ small13 (x.q.den : Int).natAbs ∧ small13 ((B : Int).natAbs.lcm (x.q.den : Int).natAbs) then M.ret (.int ((((B : Int).natAbs.lcm (x.q.den : Int).natAbs : Nat) : Int))) else M.fail := rfl
      rw [e]
      simp only [Int.natAbs_natCast]
      rw [if_pos ⟨sm _ (by omega) (Nat.pos_of_dvd_of_pos h h0), sm _ (by omega) (Nat.pos_of_dvd_of_pos kx h0), sm _ (by omega) (Nat.pos_of_dvd_of_pos hl h0)⟩]
      rfl
    show forL (gN 2) B_bottom_of_0 (bnD x :: bs.map bnD) _ w = _
    simp? only [Nat.reduceSub, Nat.reduceAdd, B_bottom_of_0_w, bnD, rq, ↓lc]
    exact e
theorem bottom_of_w {bs : List Bn} {N : Nat} (h0 : 0 < N) (h9 : N ≤ 9) (k : ∀ x ∈ bs, x.q.den ∣ N) : F_bottom_of [.lst (bs.map bnD)] w = .ok (.int (botB bs 1 : Int)) w := by
  obtain ⟨s2, e⟩ := boL (w := w) h0 h9 (s0 := .val (.lst (bs.map bnD))) bs 1 .none (Nat.one_dvd _) k
  unfold F_bottom_of
  have e' : forL (gN 2) B_bottom_of_0 (bs.map bnD) [.val (.lst (bs.map bnD)), .val (.int 1), .none] w = _ := e
  simp? only [Nat.reduceSub, Nat.reduceAdd, ↓e']
end K49
namespace K49
open PySem FL GB
variable {w : Wd}
def nD : Option Nat → D
  | none => .non
  | some i => .int (i : Int)
def amD (n : Nat) (A : Ams) : List D := (List.range n).map fun v => oD (A v)
def laD (n : Nat) (la : Nat → Option Nat) : List D := (List.range n).map fun v => nD (la v)
def wq (B : Nat) (q : Rat) : Int := q.num * ((B / q.den : Nat) : Int)
def lkP (B : Nat) (bs : List Bn) : Lk := bs.map fun x => (x.b, x.e, wq B x.q)
theorem am_at {n : Nat} {A : Ams} {v : Nat} (h : v < n) : itemAt (amD n A) (v : Int) = some (oD (A v)) := itemMap (f := fun v => oD (A v)) (List.getElem?_range h)
theorem la_at {n : Nat} {A : Nat → Option Nat} {v : Nat} (h : v < n) : itemAt (laD n A) (v : Int) = some (nD (A v)) := itemMap (f := fun v => nD (A v)) (List.getElem?_range h)
theorem map_set {n : Nat} {α : Type} {f : Nat → α} {v : Nat} {x : α} (h : v < n) : ((List.range n).map f).set v x = (List.range n).map fun j => if j = v then x else f j := by
  apply List.ext_getElem?
  intro j
  by_cases e : v = j
  · subst e
    rw [List.getElem?_set_self (by rw [List.length_map, List.length_range]; exact h), List.getElem?_map, List.getElem?_range h]
    show _ = some (if v = v then x else f v)
    rw [if_pos rfl]
  · rw [List.getElem?_set_ne e, List.getElem?_map, List.getElem?_map]
    by_cases hj : j < n
    · rw [List.getElem?_range hj]
      show some (f j) = some (if j = v then x else f j)
      rw [if_neg (fun z => e z.symm)]
    · rw [List.getElem?_eq_none (by rw [List.length_range]; omega)]; rfl
theorem am_set {n : Nat} {A : Ams} {v : Nat} {x : Int} (h : v < n) : (amD n A).set v (.int x) = amD n fun j => if j = v then some x else A j := by
  unfold amD
  rw [map_set h]
  refine List.map_congr_left fun j _ => ?_
  show (if j = v then D.int x else oD (A j)) = oD (if j = v then some x else A j)
  split <;> rfl
theorem la_set {n : Nat} {A : Nat → Option Nat} {v : Nat} {x : Nat} (h : v < n) : (laD n A).set v (.int (x : Int)) = laD n fun j => if j = v then some x else A j := by
  unfold laD
  rw [map_set h]
  refine List.map_congr_left fun j _ => ?_
  show (if j = v then D.int (x : Int) else nD (A j)) = nD (if j = v then some x else A j)
  split <;> rfl
section
variable {n : Nat} {s0 s1 s3 s6 s11 s12 : Slot}
abbrev Es (n : Nat) (s : Stt) (s0 s1 s3 s6 s7 s8 s9 s10 s11 s12 : Slot) : FL.Env := [s0, s1, .own (amD n s.A), s3, .own (laD n s.la), .val (nD s.f), s6, s7, s8, s9, s10, s11, s12]
theorem sp0 {s : Stt} {i : Nat} {l : Nat × Nat × Int} (hb : l.1 < n) (he : l.2.1 < n) : ∃ r, B_spread_amounts_0 (Es n s s0 s1 s3 s6 (.val (.int (i : Int))) (.val (.int (l.1 : Int))) (.val (.int (l.2.1 : Int))) (.val (.int l.2.2)) s11 s12) w = r ∧ (r = .nx (Es n (rel1 s i l) s0 s1 s3 s6 (.val (.int (i : Int))) (.val (.int (l.1 : Int))) (.val (.int (l.2.1 : Int))) (.val (.int l.2.2)) s11 s12) w ∨ r = .ct (Es n (rel1 s i l) s0 s1 s3 s6 (.val (.int (i : Int))) (.val (.int (l.1 : Int))) (.val (.int (l.2.1 : Int))) (.val (.int l.2.2)) s11 s12) w) := by
  have ab := am_at (A := s.A) hb
  have ae := am_at (A := s.A) he
  refine ⟨_, rfl, ?_⟩
  rw [B_spread_amounts_0_w]
  cases e1 : s.A l.1 with
  | none =>
    have er : rel1 s i l = s := by unfold rel1; rw [e1]
    rw [er]
    rw [e1] at ab
    right
    simp? only [Nat.reduceSub, Nat.reduceAdd, ab, oD]
  | some y =>
    rw [e1] at ab
    have ixA : ixP (amD n s.A).length (l.2.1 : Int) = some l.2.1 := by
      unfold amD
      rw [List.length_map, List.length_range, ixP_in (by omega) (by omega), Int.toNat_natCast]
    have ixL : ixP (laD n s.la).length (l.2.1 : Int) = some l.2.1 := by
      unfold laD
      rw [List.length_map, List.length_range, ixP_in (by omega) (by omega), Int.toNat_natCast]
    have st1 : sItem 2 (eVar 9) (eBin addD (eOwnIx 2 (eVar 8)) (eVar 10)) (Es n s s0 s1 s3 s6 (.val (.int (i : Int))) (.val (.int (l.1 : Int))) (.val (.int (l.2.1 : Int))) (.val (.int l.2.2)) s11 s12) w = .nx [s0, s1, .own (amD n fun j => if j = l.2.1 then some (y + l.2.2) else s.A j), s3, .own (laD n s.la), .val (nD s.f), s6, .val (.int (i : Int)), .val (.int (l.1 : Int)), .val (.int (l.2.1 : Int)), .val (.int l.2.2), s11, s12] w := by
      simp? only [Nat.reduceSub, Nat.reduceAdd, ab, oD]
      rw [stK_v rfl ixA, am_set he]
      rfl
    have st2 : sItem 4 (eVar 9) (eVar 7) [s0, s1, .own (amD n fun j => if j = l.2.1 then some (y + l.2.2) else s.A j), s3, .own (laD n s.la), .val (nD s.f), s6, .val (.int (i : Int)), .val (.int (l.1 : Int)), .val (.int (l.2.1 : Int)), .val (.int l.2.2), s11, s12] w = .nx [s0, s1, .own (amD n fun j => if j = l.2.1 then some (y + l.2.2) else s.A j), s3, .own (laD n fun j => if j = l.2.1 then some i else s.la j), .val (nD s.f), s6, .val (.int (i : Int)), .val (.int (l.1 : Int)), .val (.int (l.2.1 : Int)), .val (.int l.2.2), s11, s12] w := by
      simp? only [Nat.reduceSub, Nat.reduceAdd]
      rw [stK_v rfl ixL, la_set he]
      rfl
    left
    cases e2 : s.A l.2.1 with
    | none =>
      have er : rel1 s i l = ⟨fun v => if v = l.2.1 then some (y + l.2.2) else s.A v, fun v => if v = l.2.1 then some i else s.la v, some l.2.1⟩ := by
        unfold rel1 lessA
        rw [e1]
        simp only [e2, if_true]
      rw [er]
      rw [e2] at ae
      simp? only [Nat.reduceSub, Nat.reduceAdd, ab, ae, oD, ↓st1, ↓st2]
      rfl
    | some z =>
      rw [e2] at ae
      by_cases c : y + l.2.2 < z
      · have er : rel1 s i l = ⟨fun v => if v = l.2.1 then some (y + l.2.2) else s.A v, fun v => if v = l.2.1 then some i else s.la v, some l.2.1⟩ := by
          unfold rel1 lessA
          rw [e1]
          simp only [e2, decide_eq_true c, if_true]
        rw [er]
        simp? only [Nat.reduceSub, Nat.reduceAdd, ab, ae, oD, c, decide_true, ↓st1, ↓st2]
        rfl
      · have er : rel1 s i l = s := by
          unfold rel1 lessA
          rw [e1]
          simp only [e2, decide_eq_false c]
          rfl
        rw [er]
        simp? only [Nat.reduceSub, Nat.reduceAdd, ab, ae, oD, c, decide_false]
theorem spL : ∀ (ls : Lk) (i : Nat) (s : Stt) (s7 s8 s9 s10 : Slot), (∀ l ∈ ls, l.1 < n ∧ l.2.1 < n) → ∃ s7' s8' s9' s10' : Slot, forL (gTN 7 [8, 9, 10]) B_spread_amounts_0 (enumAt i (ls.map lkD)) (Es n s s0 s1 s3 s6 s7 s8 s9 s10 s11 s12) w = .nx (Es n (pass i ls s) s0 s1 s3 s6 s7' s8' s9' s10' s11 s12) w
  | [], i, s, s7, s8, s9, s10, _ => ⟨s7, s8, s9, s10, rfl⟩
  | l :: ls, i, s, s7, s8, s9, s10, h => by
    obtain ⟨hb, he⟩ := h l (List.mem_cons_self ..)
    obtain ⟨s7', s8', s9', s10', e⟩ := spL ls (i + 1) (rel1 s i l) (.val (.int (i : Int))) (.val (.int (l.1 : Int))) (.val (.int (l.2.1 : Int))) (.val (.int l.2.2)) fun x hx => h x (List.mem_cons_of_mem _ hx)
    refine ⟨s7', s8', s9', s10', ?_⟩
    show forL (gTN 7 [8, 9, 10]) B_spread_amounts_0 (.tup [.int (i : Int), lkD l] :: enumAt (i + 1) (ls.map lkD)) _ w = _
    rw [forG (ρ1 := Es n s s0 s1 s3 s6 (.val (.int (i : Int))) (.val (.int (l.1 : Int))) (.val (.int (l.2.1 : Int))) (.val (.int l.2.2)) s11 s12) rfl]
    obtain ⟨r, e1, e2⟩ := sp0 (w := w) (s := s) (i := i) (s0 := s0) (s1 := s1) (s3 := s3) (s6 := s6) (s11 := s11) (s12 := s12) hb he
    rw [e1]
    rcases e2 with rfl | rfl
    · exact e
    · exact e
theorem spR {lk : Lk} (hl : ∀ l ∈ lk, l.1 < n ∧ l.2.1 < n) {s0 s1 s11 s12 : Slot} : ∀ (k i : Nat) (s : Stt) (s6 s7 s8 s9 s10 : Slot), ∃ s6' s7' s8' s9' s10' : Slot, forL (gN 6) B_spread_amounts_1 (rng i k) (Es n s s0 s1 (.val (.lst (lk.map lkD))) s6 s7 s8 s9 s10 s11 s12) w = .nx (Es n (rounds lk k s) s0 s1 (.val (.lst (lk.map lkD))) s6' s7' s8' s9' s10' s11 s12) w
  | 0, i, s, s6, s7, s8, s9, s10 => ⟨s6, s7, s8, s9, s10, rfl⟩
  | k + 1, i, s, s6, s7, s8, s9, s10 => by
    obtain ⟨t7, t8, t9, t10, e⟩ := spL (w := w) (s0 := s0) (s1 := s1) (s3 := .val (.lst (lk.map lkD))) (s6 := .val (.int (i : Int))) (s11 := s11) (s12 := s12) lk 0 { s with f := none } s7 s8 s9 s10 hl
    have e' : forL (gTN 7 [8, 9, 10]) B_spread_amounts_0 (enumAt 0 (lk.map lkD)) [s0, s1, .own (amD n s.A), .val (.lst (lk.map lkD)), .own (laD n s.la), .val .non, .val (.int (i : Int)), s7, s8, s9, s10, s11, s12] w = _ := e
    cases c : (pass 0 lk { s with f := none }).f with
    | none =>
      have er : rounds lk (k + 1) s = pass 0 lk { s with f := none } := by
        show (if _ then _ else _) = _
        rw [if_pos c]
      refine ⟨.val (.int (i : Int)), t7, t8, t9, t10, ?_⟩
      rw [er]
      show loopF (B_spread_amounts_1 [s0, s1, .own (amD n s.A), .val (.lst (lk.map lkD)), .own (laD n s.la), .val (nD s.f), .val (.int (i : Int)), s7, s8, s9, s10, s11, s12] w) _ _ _ = _
      simp? only [Nat.reduceSub, Nat.reduceAdd, B_spread_amounts_1_w, ↓e', c, nD]
    | some f =>
      have er : rounds lk (k + 1) s = rounds lk k (pass 0 lk { s with f := none }) := by
        show (if _ then _ else _) = _
        rw [if_neg (by rw [c]; intro z; cases z)]
      obtain ⟨s6', s7', s8', s9', s10', e2⟩ := spR hl (s0 := s0) (s1 := s1) (s11 := s11) (s12 := s12) k (i + 1) (pass 0 lk { s with f := none }) (.val (.int (i : Int))) t7 t8 t9 t10
      refine ⟨s6', s7', s8', s9', s10', ?_⟩
      rw [er]
      show loopF (B_spread_amounts_1 [s0, s1, .own (amD n s.A), .val (.lst (lk.map lkD)), .own (laD n s.la), .val (nD s.f), .val (.int (i : Int)), s7, s8, s9, s10, s11, s12] w) _ _ _ = _
      simp? only [Nat.reduceSub, Nat.reduceAdd, B_spread_amounts_1_w, ↓e', c, nD]
      exact e2
end
end K49
namespace K49
open PySem FL GB
variable {w : Wd}
theorem noLst_o : ∀ l : List (Option Int), noLstL (l.map oD) = true
  | [] => rfl
  | x :: l => by
    show (noLst (oD x) && noLstL (l.map oD)) = true
    rw [noLst_o l]
    cases x <;> rfl
theorem am_eq (n : Nat) (A : Ams) : amD n A = ((List.range n).map A).map oD := by unfold amD; rw [List.map_map]; rfl
theorem noHand_o : ∀ l : List (Option Int), noHandL (l.map oD) = true
  | [] => rfl
  | x :: l => by
    show (noHand (oD x) && noHandL (l.map oD)) = true
    rw [noHand_o l]
    cases x <;> rfl
theorem num_den (q : Rat) : (q.num : Rat) = q * ((q.den : Int) : Rat) := by
  have d0 : ((q.den : Int) : Rat) ≠ 0 := by
    have := q.den_pos
    intro z
    have : (q.den : Int) = 0 := by exact_mod_cast z
    omega
  have e : q = Rat.divInt q.num q.den := (Rat.num_divInt_den q).symm
  have e2 : Rat.divInt q.num q.den = (q.num : Rat) / ((q.den : Int) : Rat) := by rw [Rat.divInt_eq_div]
  have e3 : q = (q.num : Rat) / ((q.den : Int) : Rat) := e.trans e2
  have : q * ((q.den : Int) : Rat) = (q.num : Rat) / ((q.den : Int) : Rat) * ((q.den : Int) : Rat) := by rw [← e3]
  rw [this]
  grind
theorem wq_mul {B : Nat} {q : Rat} (h : q.den ∣ B) : ((wq B q : Int) : Rat) = ((B : Int) : Rat) * q := by
  unfold wq
  obtain ⟨k, rfl⟩ := h
  have dp := q.den_pos
  rw [Nat.mul_div_cancel_left _ dp, Rat.intCast_mul, num_den, Int.natCast_mul, Rat.intCast_mul]
  grind
theorem lc_const (i : Nat) (d : D) {ρ : FL.Env} (xs : List D) : lcL (gN i) tYes (eC d) ρ xs w = .ok (xs.map fun _ => d) w := by
  have := lcMap (w := w) (ρ := ρ) (f := id) (g := fun _ => d) i (eC d) xs (fun x _ => rfl)
  rwa [List.map_id] at this
theorem spread_w {m : Nat} {B : Nat} (hB : 0 < B) (h9 : B ≤ 9) {bs : List Bn} (hb : ∀ x ∈ bs, x.b < m + 1 ∧ x.e < m + 1) (hd : ∀ x ∈ bs, x.q.den ∣ B) (hq : ∀ x ∈ bs, Sz 20 x.q.num) (hl : bs.length ≤ 100) (m8 : m ≤ 8) (A : Ams) :
    F_spread_amounts [.lst (bs.map bnD), .int (B : Int), .lst (amD (m + 1) A)] w = .ok (.tup [.lst (amD (m + 1) (rounds (lkP B bs) (m + 1) ⟨A, fun _ => none, none⟩).A), .lst (laD (m + 1) (rounds (lkP B bs) (m + 1) ⟨A, fun _ => none, none⟩).la), nD (rounds (lkP B bs) (m + 1) ⟨A, fun _ => none, none⟩).f]) w := by
  have ll : (bs.map bnD).length ≤ line := le_line (by rw [List.length_map]; omega)
  have la : (amD (m + 1) A).length ≤ line := le_line (by unfold amD; rw [List.length_map, List.length_range]; omega)
  have al : (amD (m + 1) A).length = m + 1 := by unfold amD; rw [List.length_map, List.length_range]
  have lc : ∀ (s2 s3 s4 s5 s6 s7 s8 s9 s10 s12 : Slot), lcL (gN 11) tYes (eTup [(eBin ixD (eVar 11) (eC (.int 1))), (eBin ixD (eVar 11) (eC (.int 2))), (eBin mulD (eBin ixD (eBin ixD (eVar 11) (eC (.int 3))) (eC (.int 0))) (eBin fdivD (eVar 1) (eBin ixD (eBin ixD (eVar 11) (eC (.int 3))) (eC (.int 1)))))]) [.val (.lst (bs.map bnD)), .val (.int (B : Int)), s2, s3, s4, s5, s6, s7, s8, s9, s10, .none, s12] (bs.map bnD) w = .ok ((lkP B bs).map lkD) w := fun s2 s3 s4 s5 s6 s7 s8 s9 s10 s12 => by
    unfold lkP
    rw [List.map_map]
    refine lcMap (f := bnD) (g := lkD ∘ fun x => (x.b, x.e, wq B x.q)) 11 _ bs fun x hx => ?_
    have dv := hd x hx
    have d1 := Nat.le_of_dvd hB dv
    have dp : 0 < x.q.den := x.q.den_pos
    have fd : ∀ w : Wd, fdivD (.int (B : Int)) (.int (x.q.den : Int)) w = .ok (.int ((B / x.q.den : Nat) : Int)) w := fun w => by
      rw [fdiv_int (k := 4) (by omega) (sz_lt (by omega) (by omega)) (by decide), Int.fdiv_eq_ediv_of_nonneg _ (by omega)]
      rfl
    have bd : B / x.q.den ≤ 9 := Nat.le_trans (Nat.div_le_self ..) h9
    have mu : ∀ w : Wd, mulD (.int x.q.num) (.int ((B / x.q.den : Nat) : Int)) w = .ok (.int (wq B x.q)) w := fun w => mul_int (k := 20) (l := 4) (hq x hx) (sz_lt (Int.natCast_nonneg _) (Int.lt_of_le_of_lt (b := 9) (by exact_mod_cast bd) (by decide))) (by decide)
    simp? only [Nat.reduceSub, Nat.reduceAdd, bnD, rq, ↓fd, ↓mu]
    rfl
  have own1 : ∀ s3 : Slot, sOwn 2 (nList (eVar 2)) [.val (.lst (bs.map bnD)), .val (.int (B : Int)), .val (.lst (amD (m + 1) A)), s3, .none, .none, .none, .none, .none, .none, .none, .none, .none] w = .nx [.val (.lst (bs.map bnD)), .val (.int (B : Int)), .own (amD (m + 1) A), s3, .none, .none, .none, .none, .none, .none, .none, .none, .none] w := fun s3 => by
    simp? only [Nat.reduceSub, Nat.reduceAdd]
  have own2 : sOwn 4 (nBor (nLc (iSeq (eVar 2)) [12] (gN 12) tYes (eC .non))) [.val (.lst (bs.map bnD)), .val (.int (B : Int)), .own (amD (m + 1) A), .val (.lst ((lkP B bs).map lkD)), .none, .none, .none, .none, .none, .none, .none, .none, .none] w = .nx [.val (.lst (bs.map bnD)), .val (.int (B : Int)), .own (amD (m + 1) A), .val (.lst ((lkP B bs).map lkD)), .own (laD (m + 1) fun _ => none), .none, .none, .none, .none, .none, .none, .none, .none] w := by
    have b2 : (borE [.val (.lst (bs.map bnD)), .val (.int (B : Int)), .own (amD (m + 1) A), .val (.lst ((lkP B bs).map lkD)), .none, .none, .none, .none, .none, .none, .none, .none, .none])[2]? = some (.val (.lst (amD (m + 1) A))) := by
      show some (if noHandL (amD (m + 1) A) = true then Slot.val (.lst (amD (m + 1) A)) else .none) = _
      rw [if_pos (by rw [am_eq]; exact noHand_o _)]
    have e : (nLc (iSeq (eVar 2)) [12] (gN 12) tYes (eC .non)) (borE [.val (.lst (bs.map bnD)), .val (.int (B : Int)), .own (amD (m + 1) A), .val (.lst ((lkP B bs).map lkD)), .none, .none, .none, .none, .none, .none, .none, .none, .none]) none = .ok (laD (m + 1) fun _ => none) none := by
      generalize borE [.val (.lst (bs.map bnD)), .val (.int (B : Int)), .own (amD (m + 1) A), .val (.lst ((lkP B bs).map lkD)), .none, .none, .none, .none, .none, .none, .none, .none, .none] = ρ at b2
      have is : iSeq (eVar 2) ρ none = .ok (amD (m + 1) A) none := by
        have ev : eVar 2 ρ none = .ok (.lst (amD (m + 1) A)) none := by unfold eVar; rw [b2]; rfl
        unfold iSeq M.bind
        rw [ev]; rfl
      rw [nLc_w, is]
      show lcM (amD (m + 1) A) (gN 12) tYes (eC .non) ρ [12] none = _
      rw [lcM_v _ _ _ _ la, lc_const]
      unfold amD laD
      rw [List.map_map]
      rfl
    have nb : nBor (nLc (iSeq (eVar 2)) [12] (gN 12) tYes (eC .non)) [.val (.lst (bs.map bnD)), .val (.int (B : Int)), .own (amD (m + 1) A), .val (.lst ((lkP B bs).map lkD)), .none, .none, .none, .none, .none, .none, .none, .none, .none] w = .ok (laD (m + 1) fun _ => none) w := by
      unfold nBor
      rw [e]
      simp only
      rw [if_pos (by
        have : laD (m + 1) (fun _ => none) = ((List.range (m + 1)).map fun _ => none).map oD := by unfold laD; rw [List.map_map]; rfl
        rw [this]; exact noLst_o _)]
    unfold sOwn onE
    rw [nb]
    rfl
  have lkl : ∀ l ∈ lkP B bs, l.1 < m + 1 ∧ l.2.1 < m + 1 := fun l hl => by
    obtain ⟨x, hx, rfl⟩ := List.mem_map.mp hl
    exact hb x hx
  have rg : rangeM (.int 0) (.int ((m + 1 : Nat) : Int)) w = .ok (rng 0 (m + 1)) w := range0 (m + 1) (by omega)
  have bl : eBor (eCall (un1 lenD) [(eVar 2)]) [.val (.lst (bs.map bnD)), .val (.int (B : Int)), .own (amD (m + 1) A), .val (.lst ((lkP B bs).map lkD)), .own (laD (m + 1) fun _ => none), .val .non, .none, .none, .none, .none, .none, .none, .none] w = .ok (.int ((m + 1 : Nat) : Int)) w := by
    rw [bor_len 2 rfl (by rw [am_eq]; exact noHand_o _), al]
  obtain ⟨s6, s7, s8, s9, s10, e⟩ := spR (w := w) lkl (s0 := .val (.lst (bs.map bnD))) (s1 := .val (.int (B : Int))) (s11 := .none) (s12 := .none) (m + 1) 0 ⟨A, fun _ => none, none⟩ .none .none .none .none .none
  have e' : forL (gN 6) B_spread_amounts_1 (rng 0 (m + 1)) [.val (.lst (bs.map bnD)), .val (.int (B : Int)), .own (amD (m + 1) A), .val (.lst ((lkP B bs).map lkD)), .own (laD (m + 1) fun _ => none), .val .non, .none, .none, .none, .none, .none, .none, .none] w = _ := e
  unfold F_spread_amounts
  simp? only [Nat.reduceSub, Nat.reduceAdd, lcM_v _ _ _ _ ll, lc, ↓own1, ↓own2, ↓bl, rg, ↓e']
end K49
namespace GB
variable {L L' : Lk} {a b : Nat} {w k j : Int}
theorem Wk.scale (h : ∀ l ∈ L, ∃ x, (l.1, l.2.1, x) ∈ L' ∧ l.2.2 * k = x * j) (s : Wk L a b w) : ∃ w', Wk L' a b w' ∧ w * k = w' * j := by
  induction s with
  | nil => exact ⟨0, .nil _, by simp⟩
  | snoc s m ih =>
    obtain ⟨w', h1, h2⟩ := ih
    obtain ⟨x, h3, h4⟩ := h _ m
    exact ⟨w' + x, h1.snoc h3, by rw [Int.add_mul, Int.add_mul, h2, h4]⟩
theorem IsD.scale {o o' : Option Int} (hk : 0 < k) (hj : 0 < j) (h : ∀ l ∈ L, ∃ x, (l.1, l.2.1, x) ∈ L' ∧ l.2.2 * k = x * j) (h' : ∀ l ∈ L', ∃ x, (l.1, l.2.1, x) ∈ L ∧ l.2.2 * j = x * k) (d : IsD L a b o) (d' : IsD L' a b o') : (o = none ∧ o' = none) ∨ ∃ x x', o = some x ∧ o' = some x' ∧ x * k = x' * j := by
  cases e : o with
  | none =>
    left
    refine ⟨rfl, ?_⟩
    cases e' : o' with
    | none => rfl
    | some x =>
      obtain ⟨w', h1, _⟩ := (d'.way x e').scale h'
      obtain ⟨y, q, _⟩ := d.low w' h1
      rw [e] at q; cases q
  | some x =>
    right
    obtain ⟨w', h1, h2⟩ := (d.way x e).scale h
    obtain ⟨x', e', l1⟩ := d'.low w' h1
    obtain ⟨v, h3, h4⟩ := (d'.way x' e').scale h'
    obtain ⟨y, q, l2⟩ := d.low v h3
    rw [e] at q; cases q
    refine ⟨x, x', rfl, e', ?_⟩
    have a1 : x * k ≤ v * k := Int.mul_le_mul_of_nonneg_right l2 (by omega)
    have a2 : x' * j ≤ w' * j := Int.mul_le_mul_of_nonneg_right l1 (by omega)
    omega
theorem Pot.scale {p : Nat → Int} (hk : 0 < k) (hj : 0 < j) (hp : Pot L p) (h' : ∀ l ∈ L', ∃ x, (l.1, l.2.1, x) ∈ L ∧ l.2.2 * j = x * k) : Pot L' fun v => p v * k / j := fun l hl => by
  obtain ⟨x, h1, h2⟩ := h' l hl
  have := hp _ h1
  simp only at this ⊢
  have e : p l.1 * k / j + l.2.2 = (p l.1 * k + l.2.2 * j) / j := (Int.add_mul_ediv_right _ _ (by omega)).symm
  rw [e, h2, ← Int.add_mul]
  exact Int.ediv_le_ediv hj (Int.mul_le_mul_of_nonneg_right this (by omega))
def Bd (K : Nat) (T : Tb) : Prop := ∀ a b d, T a b = some d → d.natAbs ≤ K
theorem minT_bd {K K' : Nat} {T : Tb} {v : Int} (h : Bd K T) (hK : K ≤ K') (hv : v.natAbs ≤ K') : Bd K' (minT T a b v) := fun i j d e => by
  unfold minT at e
  split at e
  · unfold putT at e
    split at e
    · cases e; exact hv
    · exact Nat.le_trans (h i j d e) hK
  · exact Nat.le_trans (h i j d e) hK
theorem init_bd {K : Nat} : ∀ (l : Lk) (T : Tb), (∀ x ∈ l, x.2.2.natAbs ≤ K) → Bd K T → Bd K (l.foldl linkT T)
  | [], T, _, h => h
  | x :: l, T, hm, h => init_bd l (linkT T x) (fun y hy => hm y (List.mem_cons_of_mem _ hy)) (minT_bd h (Nat.le_refl _) (hm x (List.mem_cons_self ..)))
theorem stT_bd {K m : Nat} {T : Tb} (h : Bd K T) : Bd (2 * K) (stT m a b T) := by
  unfold stT
  split
  · rename_i x y e1 e2
    have h1 := h _ _ _ e1
    have h2 := h _ _ _ e2
    exact minT_bd h (by omega) (by omega)
  · exact fun i j d e => Nat.le_trans (h i j d e) (by omega)
theorem rowT_bd {m : Nat} : ∀ (bs : List Nat) (K : Nat) (T : Tb), Bd K T → Bd (2 ^ bs.length * K) (rowT m a bs T)
  | [], K, T, h => by rw [List.length_nil, Nat.pow_zero, Nat.one_mul]; exact h
  | b :: bs, K, T, h => by
    have := rowT_bd (m := m) bs (2 * K) (stT m a b T) (stT_bd h)
    rw [List.length_cons, Nat.pow_succ, Nat.mul_assoc]
    exact this
theorem allT_bd {m : Nat} {bs : List Nat} : ∀ (as : List Nat) (K : Nat) (T : Tb), Bd K T → Bd (2 ^ (bs.length * as.length) * K) (allT m as bs T)
  | [], K, T, h => by rw [List.length_nil, Nat.mul_zero, Nat.pow_zero, Nat.one_mul]; exact h
  | a :: as, K, T, h => by
    have := allT_bd (m := m) (bs := bs) as _ _ (rowT_bd (m := m) (a := a) bs K T h)
    rw [List.length_cons, Nat.mul_succ, Nat.pow_add, Nat.mul_assoc]
    exact this
theorem fwT_bd {n : Nat} : ∀ (ms : List Nat) (K : Nat) (T : Tb), Bd K T → Bd (2 ^ (n * n * ms.length) * K) (fwT n ms T)
  | [], K, T, h => by rw [List.length_nil, Nat.mul_zero, Nat.pow_zero, Nat.one_mul]; exact h
  | m :: ms, K, T, h => by
    have h1 := allT_bd (m := m) (bs := List.range n) (List.range n) K T h
    rw [List.length_range] at h1
    have := fwT_bd (n := n) ms _ _ h1
    rw [List.length_cons, Nat.mul_succ, Nat.pow_add, Nat.mul_assoc]
    exact this
theorem tab_bd {n K : Nat} (h : ∀ x ∈ L, x.2.2.natAbs ≤ K) : Bd (2 ^ (n * n * n) * K) (tabL n L) := by
  have := fwT_bd (n := n) (List.range n) K (initT L) (init_bd L T0 h fun a b d e => by
    unfold T0 at e
    split at e
    · cases e; simp
    · cases e)
  rw [List.length_range] at this
  exact this
end GB
namespace K49
open PySem FL GB
variable {w : Wd}
theorem mem_bndT {b : Int} : ∀ (rs : List Rw) (k : Nat) (x : Bn), x ∈ bndT b k rs → ∃ r ∈ rs, (x.b = r.lo ∧ x.e = r.hi ∧ x.q = Rat.divInt r.u b) ∨ (x.b = r.hi ∧ x.e = r.lo ∧ x.q = -Rat.divInt r.l b)
  | r :: rs, k, x, h => by
    unfold bndT at h
    rcases List.mem_cons.mp h with rfl | h
    · exact ⟨r, List.mem_cons_self .., .inl ⟨rfl, rfl, rfl⟩⟩
    rcases List.mem_cons.mp h with rfl | h
    · exact ⟨r, List.mem_cons_self .., .inr ⟨rfl, rfl, rfl⟩⟩
    obtain ⟨r', h1, h2⟩ := mem_bndT rs (k + 1) x h
    exact ⟨r', List.mem_cons_of_mem _ h1, h2⟩
theorem bndT_mem {b : Int} : ∀ (rs : List Rw) (k : Nat) (r : Rw), r ∈ rs → (∃ x ∈ bndT b k rs, x.b = r.lo ∧ x.e = r.hi ∧ x.q = Rat.divInt r.u b) ∧ ∃ x ∈ bndT b k rs, x.b = r.hi ∧ x.e = r.lo ∧ x.q = -Rat.divInt r.l b
  | r :: rs, k, r', h => by
    unfold bndT
    rcases List.mem_cons.mp h with rfl | h
    · exact ⟨⟨_, List.mem_cons_self .., rfl, rfl, rfl⟩, ⟨_, List.mem_cons_of_mem _ (List.mem_cons_self ..), rfl, rfl, rfl⟩⟩
    obtain ⟨⟨x, h1, h2⟩, ⟨y, h3, h4⟩⟩ := bndT_mem rs (k + 1) r' h
    exact ⟨⟨x, List.mem_cons_of_mem _ (List.mem_cons_of_mem _ h1), h2⟩, ⟨y, List.mem_cons_of_mem _ (List.mem_cons_of_mem _ h3), h4⟩⟩
theorem mem_bnd {b : Int} {m : Nat} {rs : List Rw} {x : Bn} (h : x ∈ bndL b m rs) : (∃ r ∈ rs, (x.b = r.lo ∧ x.e = r.hi ∧ x.q = Rat.divInt r.u b) ∨ (x.b = r.hi ∧ x.e = r.lo ∧ x.q = -Rat.divInt r.l b)) ∨ ∃ a, a < m ∧ x.b = a + 1 ∧ x.e = a ∧ x.q = 0 := by
  unfold bndL at h
  rcases List.mem_append.mp h with h | h
  · exact .inl (mem_bndT rs 0 x h)
  · obtain ⟨a, ha, rfl⟩ := List.mem_map.mp h
    exact .inr ⟨a, List.mem_range.mp ha, rfl, rfl, rfl⟩
theorem den_div {u b : Int} (hb : 0 < b) : (Rat.divInt u b).den ∣ b.toNat := by
  rw [Rat.den_divInt, if_neg (by omega)]
  have e : b.natAbs = b.toNat := by omega
  rw [e]
  refine Nat.div_dvd_of_dvd ?_
  rw [← e]
  exact Nat.gcd_dvd_left ..
structure Gd (m : Nat) (p : Nat → Int) (b : Int) (rs : List Rw) : Prop where
  m1 : 1 ≤ m
  m6 : m ≤ 8
  b1 : 1 ≤ b
  b3 : b ≤ 3
  ok : ∀ r ∈ rs, Ok m p r
  st : ∀ a, a < m → p a ≤ p (a + 1)
  ln : rs.length ≤ 24
section
variable {m : Nat} {p : Nat → Int} {b : Int} {rs : List Rw}
theorem Gd.in' (h : Gd m p b rs) : In' m rs := fun r hr => ⟨(h.ok r hr).lt, (h.ok r hr).le⟩
theorem Gd.pot (h : Gd m p b rs) : Pot (linksL m rs) p := fun l hl => by
  unfold linksL at hl
  rcases List.mem_append.mp hl with hl | hl
  · rcases List.mem_append.mp hl with hl | hl
    · obtain ⟨r, hr, rfl⟩ := List.mem_map.mp hl
      have := (h.ok r hr).upp
      show p r.hi ≤ p r.lo + r.u
      omega
    · obtain ⟨r, hr, rfl⟩ := List.mem_map.mp hl
      have := (h.ok r hr).low
      show p r.lo ≤ p r.hi + -r.l
      omega
  · obtain ⟨a, ha, rfl⟩ := List.mem_map.mp hl
    have := h.st a (List.mem_range.mp ha)
    show p a ≤ p (a + 1) + 0
    omega
theorem Gd.bd (h : Gd m p b rs) : ∀ l ∈ linksL m rs, l.2.2.natAbs ≤ 200 := fun l hl => by
  unfold linksL at hl
  rcases List.mem_append.mp hl with hl | hl
  · rcases List.mem_append.mp hl with hl | hl
    · obtain ⟨r, hr, rfl⟩ := List.mem_map.mp hl
      have := (h.ok r hr).bu
      show r.u.natAbs ≤ 200
      omega
    · obtain ⟨r, hr, rfl⟩ := List.mem_map.mp hl
      have := (h.ok r hr).bl
      show (-r.l).natAbs ≤ 200
      omega
  · obtain ⟨a, ha, rfl⟩ := List.mem_map.mp hl
    show (0 : Int).natAbs ≤ 200
    decide
abbrev Tl (m : Nat) (rs : List Rw) : Tb := tabL (m + 1) (linksL m rs)
theorem Gd.isD (h : Gd m p b rs) (i j : Nat) : IsD (linksL m rs) i j (Tl m rs i j) := tab_is h.pot (links_in h.in') i j
theorem Gd.sz (h : Gd m p b rs) {i j : Nat} {d : Int} (e : Tl m rs i j = some d) : Sz 740 d := by
  have := tab_bd (n := m + 1) (K := 200) h.bd i j d e
  have p : 2 ^ ((m + 1) * (m + 1) * (m + 1)) ≤ 2 ^ 729 := Nat.pow_le_pow_right (by decide) (by
    have h9 : m + 1 ≤ 9 := by have := h.m6; omega
    have := Nat.mul_le_mul (Nat.mul_le_mul h9 h9) h9
    omega)
  have q : 2 ^ ((m + 1) * (m + 1) * (m + 1)) * 200 ≤ 2 ^ 729 * 200 := Nat.mul_le_mul_right _ p
  have r : (2 : Nat) ^ 740 = 2 ^ 729 * 2048 := by rw [show 740 = 729 + 11 by decide, Nat.pow_add]
  unfold Sz
  have z : 0 < (2 : Nat) ^ 729 := Nat.two_pow_pos _
  omega
abbrev Bp (m : Nat) (b : Int) (rs : List Rw) : Nat := botB (bndL b m rs) 1
theorem Gd.dn (h : Gd m p b rs) : ∀ x ∈ bndL b m rs, x.q.den ∣ b.toNat := fun x hx => by
  have b1 := h.b1
  rcases mem_bnd hx with ⟨r, _, ⟨_, _, e⟩ | ⟨_, _, e⟩⟩ | ⟨a, _, _, _, e⟩
  · rw [e]; exact den_div (by omega)
  · rw [e, Rat.neg_den]; exact den_div (by omega)
  · rw [e]; exact Nat.one_dvd _
theorem Gd.bpd (h : Gd m p b rs) : Bp m b rs ∣ b.toNat := botB_min _ _ _ (Nat.one_dvd _) h.dn
theorem Gd.bp0 (h : Gd m p b rs) : 0 < Bp m b rs := Nat.pos_of_dvd_of_pos h.bpd (by have := h.b1; omega)
theorem Gd.bp3 (h : Gd m p b rs) : Bp m b rs ≤ 3 := Nat.le_trans (Nat.le_of_dvd (by have := h.b1; omega) h.bpd) (by have := h.b3; omega)
theorem Gd.dnB (h : Gd m p b rs) : ∀ x ∈ bndL b m rs, x.q.den ∣ Bp m b rs := (botB_dvd _ 1).2
theorem Gd.marks (h : Gd m p b rs) : ∀ x ∈ bndL b m rs, x.b < m + 1 ∧ x.e < m + 1 := fun x hx => by
  rcases mem_bnd hx with ⟨r, hr, ⟨e1, e2, _⟩ | ⟨e1, e2, _⟩⟩ | ⟨a, ha, e1, e2, _⟩
  · have := h.in' r hr; omega
  · have := h.in' r hr; omega
  · omega
theorem Gd.nm (h : Gd m p b rs) : ∀ x ∈ bndL b m rs, Sz 20 x.q.num := fun x hx => by
  have b1 := h.b1
  have b3 := h.b3
  rcases mem_bnd hx with ⟨r, hr, ⟨_, _, e⟩ | ⟨_, _, e⟩⟩ | ⟨a, _, _, _, e⟩
  · have := (h.ok r hr).bu
    rw [e]; exact (q_sz (by omega) (by omega)).1.mono (by decide)
  · have := (h.ok r hr).bl
    rw [e]; exact (q_sz (by omega) (by omega)).neg.1.mono (by decide)
  · rw [e]; unfold Sz; decide
theorem wq_div {B : Nat} {u b : Int} (hb : 0 < b) (h : (Rat.divInt u b).den ∣ B) : wq B (Rat.divInt u b) * b = u * (B : Int) := by
  have e := wq_mul h
  have b0 : (b : Rat) ≠ 0 := by
    intro z
    have : b = 0 := by exact_mod_cast z
    omega
  have k : ((wq B (Rat.divInt u b) * b : Int) : Rat) = ((u * (B : Int) : Int) : Rat) := by
    rw [Rat.intCast_mul, Rat.intCast_mul, e, Rat.divInt_eq_div]
    grind
  exact_mod_cast k
theorem wq_neg {B : Nat} {q : Rat} : wq B (-q) = -wq B q := by
  unfold wq
  rw [Rat.neg_num, Rat.neg_den, Int.neg_mul]
theorem Gd.toL (h : Gd m p b rs) : ∀ l ∈ lkP (Bp m b rs) (bndL b m rs), ∃ x, (l.1, l.2.1, x) ∈ linksL m rs ∧ l.2.2 * b = x * (Bp m b rs : Int) := fun l hl => by
  have b1 := h.b1
  obtain ⟨x, hx, rfl⟩ := List.mem_map.mp hl
  have dv := h.dnB x hx
  generalize Bp m b rs = B at *
  show ∃ y, (x.b, x.e, y) ∈ linksL m rs ∧ wq B x.q * b = y * (B : Int)
  unfold linksL
  rcases mem_bnd hx with ⟨r, hr, ⟨e1, e2, e3⟩ | ⟨e1, e2, e3⟩⟩ | ⟨a, ha, e1, e2, e3⟩
  · rw [e1, e2, e3]
    rw [e3] at dv
    exact ⟨r.u, List.mem_append_left _ (List.mem_append_left _ (List.mem_map.mpr ⟨r, hr, rfl⟩)), wq_div (by omega) dv⟩
  · rw [e1, e2, e3]
    rw [e3, Rat.neg_den] at dv
    refine ⟨-r.l, List.mem_append_left _ (List.mem_append_right _ (List.mem_map.mpr ⟨r, hr, rfl⟩)), ?_⟩
    rw [wq_neg, Int.neg_mul, wq_div (by omega) dv, Int.neg_mul]
  · rw [e1, e2, e3]
    refine ⟨0, List.mem_append_right _ (List.mem_map.mpr ⟨a, List.mem_range.mpr ha, rfl⟩), ?_⟩
    unfold wq
    simp
theorem Gd.toP (h : Gd m p b rs) : ∀ l ∈ linksL m rs, ∃ x, (l.1, l.2.1, x) ∈ lkP (Bp m b rs) (bndL b m rs) ∧ l.2.2 * (Bp m b rs : Int) = x * b := fun l hl => by
  have b1 := h.b1
  have dd := h.dnB
  have mk : ∀ x ∈ bndL b m rs, (x.b, x.e, wq (Bp m b rs) x.q) ∈ lkP (Bp m b rs) (bndL b m rs) := fun x hx => List.mem_map.mpr ⟨x, hx, rfl⟩
  generalize Bp m b rs = B at *
  unfold linksL at hl
  rcases List.mem_append.mp hl with hl | hl
  · rcases List.mem_append.mp hl with hl | hl
    · obtain ⟨r, hr, rfl⟩ := List.mem_map.mp hl
      obtain ⟨⟨x, hx, e1, e2, e3⟩, _⟩ := bndT_mem (b := b) rs 0 r hr
      have hx' : x ∈ bndL b m rs := List.mem_append_left _ hx
      have k := mk x hx'
      have dv := dd x hx'
      rw [e1, e2] at k
      refine ⟨_, k, ?_⟩
      rw [e3] at dv ⊢
      exact (wq_div (by omega) dv).symm
    · obtain ⟨r, hr, rfl⟩ := List.mem_map.mp hl
      obtain ⟨_, ⟨x, hx, e1, e2, e3⟩⟩ := bndT_mem (b := b) rs 0 r hr
      have hx' : x ∈ bndL b m rs := List.mem_append_left _ hx
      have k := mk x hx'
      have dv := dd x hx'
      rw [e1, e2] at k
      refine ⟨_, k, ?_⟩
      rw [e3] at dv ⊢
      rw [Rat.neg_den] at dv
      rw [wq_neg, Int.neg_mul, Int.neg_mul, wq_div (by omega) dv]
  · obtain ⟨a, ha, rfl⟩ := List.mem_map.mp hl
    have hx' : wBn a ∈ bndL b m rs := List.mem_append_right _ (List.mem_map.mpr ⟨a, ha, rfl⟩)
    refine ⟨_, mk _ hx', ?_⟩
    show 0 * (B : Int) = wq B 0 * b
    unfold wq
    simp
abbrev Lp (m : Nat) (b : Int) (rs : List Rw) : Lk := lkP (Bp m b rs) (bndL b m rs)
theorem Gd.inP (h : Gd m p b rs) : In (Lp m b rs) (m + 1) := fun l hl => by
  obtain ⟨x, hx, rfl⟩ := List.mem_map.mp hl
  exact h.marks x hx
theorem Gd.potP (h : Gd m p b rs) : ∃ p', Pot (Lp m b rs) p' :=
  ⟨_, h.pot.scale (k := (Bp m b rs : Int)) (j := b) (by have := h.bp0; omega) (by have := h.b1; omega) h.toL⟩
theorem Gd.both (h : Gd m p b rs) (i j : Nat) {o : Option Int} (d : IsD (Lp m b rs) i j o) : (Tl m rs i j = none ∧ o = none) ∨ ∃ x x', Tl m rs i j = some x ∧ o = some x' ∧ x * (Bp m b rs : Int) = x' * b :=
  (h.isD i j).scale (by have := h.bp0; omega) (by have := h.b1; omega) h.toP h.toL d
theorem same_q {x x' B b : Int} (hB : 0 < B) (hb : 0 < b) (e : x * B = x' * b) : Rat.divInt x' B = Rat.divInt x b := by
  have b0 : (b : Rat) ≠ 0 := by intro z; have : b = 0 := by exact_mod_cast z
                                omega
  have B0 : (B : Rat) ≠ 0 := by intro z; have : B = 0 := by exact_mod_cast z
                                omega
  have k : (x : Rat) * (B : Rat) = (x' : Rat) * (b : Rat) := by exact_mod_cast e
  rw [Rat.divInt_eq_div, Rat.divInt_eq_div]
  grind
end
end K49
namespace K49
open PySem FL GB
variable {w : Wd}
theorem make_ratio_w {a b : Int} {k : Nat} (hb0 : b ≠ 0) (hb : Sz k b) (hk : k < 9000) : F_make_ratio [.int a, .int b] w = .ok (rq (Rat.divInt a b)) w := by
  have lw := fun w : Wd => lowest_q (w := w) (a := a) hb0 hb hk
  have wi := fun (i : Int) (w : Wd) => whole_i (w := w) i
  have e : (b == 0) = false := beq_eq_false_iff_ne.mpr hb0
  unfold F_make_ratio
  simp? only [Nat.reduceSub, Nat.reduceAdd, List.cons_append, List.nil_append, ↓wi, Bool.not_true, e, ↓lw]
section
variable {m : Nat} {p : Nat → Int} {b : Int} {rs : List Rw}
theorem Gd.spread (h : Gd m p b rs) {A0 : Ams} (h0 : ∀ u, m + 1 ≤ u → A0 u = none) : ∃ (D : Ams) (la : Nat → Option Nat), (∀ v, IsS (Lp m b rs) A0 v (D v)) ∧ (∀ v i, la v = some i → i < (bndL b m rs).length) ∧ ∀ w : Wd, F_spread_amounts [.lst ((bndL b m rs).map bnD), .int (Bp m b rs : Int), .lst (amD (m + 1) A0)] w = .ok (.tup [.lst (amD (m + 1) D), .lst (laD (m + 1) la), .non]) w := by
  obtain ⟨p', hp⟩ := h.potP
  have ex : ∀ v, ∃ o, IsS (Lp m b rs) A0 v o := fun v => isS_ex hp h.inP h0 v
  obtain ⟨D, hD⟩ := Classical.axiomOfChoice ex
  obtain ⟨hf, hA⟩ := spread_ok hD h.inP (by omega) h0
  have ok := rounds_la (L := Lp m b rs) (m := (bndL b m rs).length) (by show (lkP _ _).length ≤ _; unfold lkP; rw [List.length_map]; exact Nat.le_refl _) (m + 1) ⟨A0, fun _ => none, none⟩ (fun v i z => by cases z)
  have m6 := h.m6
  have ln := h.ln
  refine ⟨D, _, hD, ok, fun w => ?_⟩
  have e := spread_w (w := w) (m := m) (B := Bp m b rs) h.bp0 (by have := h.bp3; omega) h.marks h.dnB h.nm (by rw [bnd_len]; omega) m6 A0
  rw [e, hf]
  have ea : (rounds (lkP (Bp m b rs) (bndL b m rs)) (m + 1) ⟨A0, fun _ => none, none⟩).A = D := funext hA
  rw [ea]
  rfl
theorem tbk {bs : List Bn} {n : Nat} (hb : ∀ x ∈ bs, x.b < n) {la : Nat → Option Nat} (hla : ∀ v i, la v = some i → i < bs.length)   : ∀ (xs : List D) (v : Nat) (tr : List D) (s4 : Slot), v < n → tr.length + xs.length ≤ 100 → ∃ (v' : Nat) (tr' : List D) (s4' : Slot), ∀ w : Wd, forL (gN 4) B_trail_back_0 xs [.val (.lst (bs.map bnD)), .val (.lst (laD n la)), .val (.int (v : Int)), .val (.lst tr), s4] w = .nx [.val (.lst (bs.map bnD)), .val (.lst (laD n la)), .val (.int (v' : Int)), .val (.lst tr'), s4'] w
  | [], v, tr, s4, _, _ => ⟨v, tr, s4, fun w => rfl⟩
  | x :: xs, v, tr, s4, hv, hl => by
    rw [List.length_cons] at hl
    have iv := la_at (A := la) hv
    cases e : la v with
    | none =>
      rw [e] at iv
      refine ⟨v, tr, .val x, fun w => ?_⟩
      show loopF (B_trail_back_0 [.val (.lst (bs.map bnD)), .val (.lst (laD n la)), .val (.int (v : Int)), .val (.lst tr), .val x] w) _ _ _ = _
      simp? only [Nat.reduceSub, Nat.reduceAdd, B_trail_back_0_w, iv, nD]
    | some i =>
      rw [e] at iv
      have hi := hla v i e
      have ib : itemAt (bs.map bnD) (i : Int) = some (bnD bs[i]) := itemMap (List.getElem?_eq_getElem hi)
      have l1 : [bs[i].nm].length + tr.length ≤ line := le_line (by rw [List.length_singleton]; omega)
      obtain ⟨v', tr', s4', e2⟩ := tbk hb hla xs bs[i].b ([bs[i].nm] ++ tr) (.val x) (hb _ (List.getElem_mem hi)) (by rw [List.length_append, List.length_singleton]; omega)
      refine ⟨v', tr', s4', fun w => ?_⟩
      show loopF (B_trail_back_0 [.val (.lst (bs.map bnD)), .val (.lst (laD n la)), .val (.int (v : Int)), .val (.lst tr), .val x] w) _ _ _ = _
      simp? only [Nat.reduceSub, Nat.reduceAdd, B_trail_back_0_w, iv, nD, ib, bnD, add_lst l1]
      exact e2 w
theorem trail_back_w {bs : List Bn} {n : Nat} (hn : n ≤ 20) (hb : ∀ x ∈ bs, x.b < n) {la : Nat → Option Nat} (hla : ∀ v i, la v = some i → i < bs.length) {v : Nat} (hv : v < n) : ∃ tr : List D, ∀ w : Wd, F_trail_back [.lst (bs.map bnD), .lst (laD n la), .int (v : Int)] w = .ok (.tup tr) w := by
  obtain ⟨v', tr, s4, e⟩ := tbk hb hla (laD n la) v [] .none hv (by unfold laD; rw [List.length_map, List.length_range, List.length_nil]; omega)
  refine ⟨tr, fun w => ?_⟩
  have e := e w
  unfold F_trail_back
  simp? only [Nat.reduceSub, Nat.reduceAdd, ↓e]
theorem weights_by_w (h : Gd m p b rs) {c : List D → D} (hc : c = D.lst ∨ c = D.tup) : ∃ xs : List D, ∀ w : Wd, F_weights_by [.int (m : Int), c (rs.map (tlD b))] w = .ok (.tup xs) w := by
  have m6 := h.m6
  have bp0 := h.bp0
  have bp3 := h.bp3
  have bb := fun w : Wd => bounds_by_w (w := w) (m := m) h.m6 (b := b) h.ln hc
  have bo := fun w : Wd => bottom_of_w (w := w) (bs := bndL b m rs) (N := b.toNat) (by have := h.b1; omega) (by have := h.b3; omega) h.dn
  obtain ⟨Aq, la, hD, _, sp⟩ := h.spread (A0 := fun u => if u < m + 1 then some 0 else none) (fun u hu => if_neg (by omega))
  have zs : ∀ v, v < m + 1 → ∃ d, Aq v = some d := fun v hv => by
    obtain ⟨d, e, _⟩ := (hD v).low v 0 0 (if_pos hv) (Wk.nil v)
    exact ⟨d, e⟩
  let f : Nat → Rat := fun a => Rat.divInt ((Aq (a + 1)).getD 0 - (Aq a).getD 0) (Bp m b rs : Int)
  refine ⟨(List.range m).map fun a => rq (f a), fun w => ?_⟩
  have hi : (m : Int) + 1 = ((m + 1 : Nat) : Int) := by omega
  have rg1 : rangeM (.int 0) (.int ((m + 1 : Nat) : Int)) w = .ok (rng 0 (m + 1)) w := range0 (m + 1) (by omega)
  have rg : rangeM (.int 0) (.int (m : Int)) w = .ok (rng 0 m) w := range0 m (by omega)
  have l1 : (rng 0 (m + 1)).length ≤ line := le_line (by rw [rng_len]; omega)
  have l0 : (rng 0 m).length ≤ line := le_line (by rw [rng_len]; omega)
  have lz : ∀ ρ : FL.Env, lcL (gN 7) tYes (eC (.int 0)) ρ (rng 0 (m + 1)) w = .ok (amD (m + 1) fun u => if u < m + 1 then some 0 else none) w := fun ρ => by
    rw [lc_const, rng_map, List.map_map]
    unfold amD
    congr 1
    refine List.map_congr_left fun v hv => ?_
    simp only [List.mem_range.mp hv, if_true]
    rfl
  have lc : ∀ s7 : Slot, lcL (gN 8) tYes (eCall F_make_ratio [(eBin subD (eBin ixD (eVar 4) (eBin addD (eVar 8) (eC (.int 1)))) (eBin ixD (eVar 4) (eVar 8))), (eVar 3)]) [.val (.int (m : Int)), .val (c (rs.map (tlD b))), .val (.lst ((bndL b m rs).map bnD)), .val (.int (Bp m b rs : Int)), .val (.lst (amD (m + 1) Aq)), .val (.lst (laD (m + 1) la)), .val .non, s7, .none] (rng 0 m) w = .ok ((List.range m).map fun a => rq (f a)) w := fun s7 => by
    rw [rng_map]
    refine lcMap (f := fun (k : Nat) => D.int (k : Int)) (g := fun a => rq (f a)) 8 _ (List.range m) fun a ha => ?_
    have ha := List.mem_range.mp ha
    obtain ⟨d0, e0⟩ := zs a (by omega)
    obtain ⟨d1, e1⟩ := zs (a + 1) (by omega)
    have i0 := am_at (A := Aq) (show a < m + 1 by omega)
    have i1 := am_at (A := Aq) (show a + 1 < m + 1 by omega)
    rw [e0] at i0
    rw [e1] at i1
    have ea : (a : Int) + 1 = ((a + 1 : Nat) : Int) := by omega
    have mk := fun (x : Int) (w : Wd) => make_ratio_w (w := w) (a := x) (b := (Bp m b rs : Int)) (k := 3) (by omega) (sz_lt (by omega) (by omega)) (by decide)
    simp? only [Nat.reduceSub, Nat.reduceAdd, ea, i0, i1, oD, ↓mk]
    show R.ok (rq (Rat.divInt (d1 - d0) (Bp m b rs : Int))) w = R.ok (rq (Rat.divInt ((Aq (a + 1)).getD 0 - (Aq a).getD 0) (Bp m b rs : Int))) w
    rw [e0, e1]
    rfl
  unfold F_weights_by
  simp? only [Nat.reduceSub, Nat.reduceAdd, ↓bb, ↓bo, hi, rg1, lcM_v _ _ _ _ l1, lz, ↓sp, rg, lcM_v _ _ _ _ l0, lc]
theorem check_fit_w (h : Gd m p b rs) {c : List D → D} (hc : c = D.lst ∨ c = D.tup) : F_check_fit [.int (m : Int), c (rs.map (tlD b))] w = .ok .non w := by
  obtain ⟨xs, e⟩ := weights_by_w h hc
  have is : ∀ w : Wd, isiO cs_ 100 (.tup xs) w = .ok (.bl false) w := fun w => rfl
  unfold F_check_fit
  simp? only [Nat.reduceSub, Nat.reduceAdd, ↓e, ↓is]
def moD (b : Int) : Option Int → D
  | none => .non
  | some d => rq (Rat.divInt d b)
theorem farthest_w (h : Gd m p b rs) {i j : Nat} (hi : i ≤ m) (hj : j ≤ m) {c : List D → D} (hc : c = D.lst ∨ c = D.tup) : (Tl m rs i j = none ∧ ∀ w : Wd, F_farthest_sum [.int (m : Int), c (rs.map (tlD b)), .int (i : Int), .int (j : Int)] w = .ok .non w) ∨ ∃ d tr, Tl m rs i j = some d ∧ ∀ w : Wd, F_farthest_sum [.int (m : Int), c (rs.map (tlD b)), .int (i : Int), .int (j : Int)] w = .ok (.tup [rq (Rat.divInt d b), .tup tr]) w := by
  have m6 := h.m6
  have bp0 := h.bp0
  have bp3 := h.bp3
  have bb := fun w : Wd => bounds_by_w (w := w) (m := m) h.m6 (b := b) h.ln hc
  have bo := fun w : Wd => bottom_of_w (w := w) (bs := bndL b m rs) (N := b.toNat) (by have := h.b1; omega) (by have := h.b3; omega) h.dn
  obtain ⟨Aq, la, hD, hla, sp⟩ := h.spread (A0 := fun u => if u = i then some 0 else none) (fun u hu => if_neg (by omega))
  obtain ⟨p', hp⟩ := h.potP
  have dj : Aq j = tabL (m + 1) (Lp m b rs) i j := (hD j).one (isS_of (tab_is hp h.inP i j))
  have e1 : (m : Int) + 1 = ((m + 1 : Nat) : Int) := by omega
  have rg1 : ∀ w : Wd, rangeM (.int 0) (.int ((m + 1 : Nat) : Int)) w = .ok (rng 0 (m + 1)) w := fun w => range0 (m + 1) (by omega)
  have l1 : (rng 0 (m + 1)).length ≤ line := le_line (by rw [rng_len]; omega)
  have lz : ∀ (s3 s4 s5 s6 s7 s8 s9 : Slot) (w : Wd), lcL (gN 10) tYes (eIf (tVal (eBin eqD (eVar 10) (eVar 2))) (eC (.int 0)) (eC .non)) [.val (.int (m : Int)), .val (c (rs.map (tlD b))), .val (.int (i : Int)), s3, s4, s5, s6, s7, s8, s9, .none] (rng 0 (m + 1)) w = .ok (amD (m + 1) fun u => if u = i then some 0 else none) w := fun s3 s4 s5 s6 s7 s8 s9 w => by
    rw [rng_map]
    unfold amD
    refine lcMap (f := fun (k : Nat) => D.int (k : Int)) (g := fun u => oD (if u = i then some 0 else none)) 10 _ (List.range (m + 1)) fun u _ => ?_
    by_cases z : u = i
    · subst z
      simp? only [Nat.reduceSub, Nat.reduceAdd, beq_self_eq_true, if_true, oD]
    · have cz : ((u : Int) == (i : Int)) = false := beq_eq_false_iff_ne.mpr (by omega)
      simp? only [Nat.reduceSub, Nat.reduceAdd, cz, if_neg z, oD]
  have ij := am_at (A := Aq) (show j < m + 1 by omega)
  rcases h.both i j (o := Aq j) (by rw [dj]; exact tab_is hp h.inP i j) with ⟨t, o⟩ | ⟨x, x', t, o, ex⟩
  · left
    refine ⟨t, fun w => ?_⟩
    rw [o] at ij
    unfold F_farthest_sum
    simp? only [Nat.reduceSub, Nat.reduceAdd, ↓bb, ↓bo, e1, ↓rg1, lcM_v _ _ _ _ l1, lz, ↓sp, ij, oD]
  · right
    obtain ⟨tr, et⟩ := trail_back_w (bs := bndL b m rs) (n := m + 1) (by omega) (fun y hy => (h.marks y hy).1) hla (v := j) (by omega)
    rw [o] at ij
    have B0 : (0 : Int) < (Bp m b rs : Int) := by omega
    have mk := fun (w : Wd) => make_ratio_w (w := w) (a := x') (b := (Bp m b rs : Int)) (k := 3) (by omega) (sz_lt (by omega) (by omega)) (by decide)
    rw [same_q B0 (by have := h.b1; omega) ex] at mk
    refine ⟨x, tr, t, fun w => ?_⟩
    unfold F_farthest_sum
    simp? only [Nat.reduceSub, Nat.reduceAdd, ↓bb, ↓bo, e1, ↓rg1, lcM_v _ _ _ _ l1, lz, ↓sp, ij, oD, ↓mk, ↓et]
end
end K49
namespace K49
open PySem FL GB
variable {w : Wd}
theorem sb_init (x y z t : D) : F_SumBounds___init__ [x, y, z, t] w = .ok [x, y, z, t] w := by
  unfold F_SumBounds___init__
  simp? only [Nat.reduceSub, Nat.reduceAdd]
section
variable {m : Nat} {p : Nat → Int} {b : Int} {rs : List Rw}
theorem down_wk {lo : Nat} : ∀ k : Nat, lo + k ≤ m → Wk (linksL m rs) (lo + k) lo 0
  | 0, _ => Wk.nil _
  | k + 1, h => by
    have one : Wk (linksL m rs) (lo + k + 1) (lo + k) 0 := Wk.one (List.mem_append_right _ (List.mem_map.mpr ⟨lo + k, List.mem_range.mpr (by omega), rfl⟩))
    have := one.trans (down_wk k (by omega))
    rw [Int.add_zero] at this
    exact this
def sbD (x y z t : D) : D := .ins 101 ["least", "most", "least_trail", "most_trail"] [x, y, z, t]
theorem between_w (h : Gd m p b rs) {lo hi : Nat} (h1 : lo < hi) (h2 : hi ≤ m) {c : List D → D} (hc : c = D.lst ∨ c = D.tup) : ∃ (d : Int) (t1 t2 : D), Tl m rs hi lo = some d ∧ ∀ w : Wd, F_bounds_between [.int (m : Int), c (rs.map (tlD b)), .int (lo : Int), .int (hi : Int)] w = .ok (sbD (rq (-Rat.divInt d b)) (moD b (Tl m rs lo hi)) t1 t2) w := by
  have wk := down_wk (m := m) (rs := rs) (lo := lo) (hi - lo) (by omega)
  rw [show lo + (hi - lo) = hi by omega] at wk
  obtain ⟨d, ed, _⟩ := (h.isD hi lo).low 0 wk
  have ng := fun (q : Rat) (w : Wd) => negative_w (w := w) q
  have si := fun (x y z t : D) (w : Wd) => sb_init (w := w) x y z t
  rcases farthest_w h (i := hi) (j := lo) h2 (by omega) hc with ⟨t, _⟩ | ⟨d', tr, t, f1⟩
  · rw [ed] at t; cases t
  rw [ed] at t; cases t
  rcases farthest_w h (i := lo) (j := hi) (by omega) h2 hc with ⟨t, f2⟩ | ⟨d2, tr2, t, f2⟩
  · refine ⟨d, .tup tr, .non, ed, fun w => ?_⟩
    rw [t]
    unfold F_bounds_between
    simp? only [Nat.reduceSub, Nat.reduceAdd, ↓f1, ↓f2, ↓ng, List.append_nil, ↓si]
    rfl
  · refine ⟨d, .tup tr, .tup tr2, ed, fun w => ?_⟩
    rw [t]
    unfold F_bounds_between
    simp? only [Nat.reduceSub, Nat.reduceAdd, ↓f1, ↓f2, ↓ng, List.append_nil, ↓si]
    rfl
theorem mo_sz (h : Gd m p b rs) {i j : Nat} {d : Int} (e : Tl m rs i j = some d) : SzQ 740 (Rat.divInt d b) := by
  have b1 := h.b1
  have b3 := h.b3
  rw [Rat.divInt_eq_div]
  have h1 : d.natAbs < 2 ^ 740 := h.sz e
  have h2 : b.natAbs < 2 ^ 740 := Nat.lt_of_le_of_lt (show b.natAbs ≤ 3 by omega) (by decide +kernel)
  have := (bq_div (a := d) (b := b) (by omega) (Nat.le_refl _) (Nat.le_refl _)).sz h1 h2
  rwa [Rat.divInt_eq_div] at this
theorem cmp_le {x y : Rat} : decide (cmpQ x y ≤ 0) = decide (x ≤ y) := by
  unfold cmpQ
  by_cases h : x < y
  · rw [if_pos h, decide_eq_true (Rat.le_of_lt h)]; decide
  · rw [if_neg h]
    by_cases k : y < x
    · rw [if_pos k, decide_eq_false (fun z => Rat.not_lt.mpr z k)]; decide
    · rw [if_neg k, decide_eq_true (Rat.not_lt.mp k)]; decide
theorem cmp_pos {x y : Rat} : decide (0 < cmpQ x y) = decide (y < x) := by
  unfold cmpQ
  by_cases h : x < y
  · rw [if_pos h, decide_eq_false (fun z => Rat.not_lt.mpr (Rat.le_of_lt h) z)]; decide
  · rw [if_neg h]
    by_cases k : y < x
    · rw [if_pos k, decide_eq_true k]; decide
    · rw [if_neg k, decide_eq_false k]; decide
theorem cmp_ge {x y : Rat} : decide (0 ≤ cmpQ x y) = decide (y ≤ x) := by
  unfold cmpQ
  by_cases h : x < y
  · rw [if_pos h, decide_eq_false (fun z => Rat.not_lt.mpr z h)]; decide
  · rw [if_neg h, decide_eq_true (Rat.not_lt.mp h)]
    split <;> decide
theorem neg_div (d b : Int) : -Rat.divInt d b = Rat.divInt (-d) b := by
  rw [Rat.divInt_eq_div, Rat.divInt_eq_div, Rat.intCast_neg, Rat.div_def, Rat.div_def, Rat.neg_mul]
theorem lim_le {d b L : Int} (hb : 0 < b) : decide (Rat.divInt d b ≤ Rat.divInt L (3 * b)) = decide (3 * d ≤ L) := by
  have e : Rat.divInt d b = Rat.divInt (3 * d) (3 * b) := same_q (B := b) (b := 3 * b) hb (by omega) (by grind)
  rw [e]
  by_cases h : 3 * d ≤ L
  · rw [decide_eq_true h, decide_eq_true (div_le (by omega) h)]
  · rw [decide_eq_false h, decide_eq_false]
    exact Rat.not_le.mpr (div_lt (by omega) (by omega))
theorem lim_lt {d b L : Int} (hb : 0 < b) : decide (Rat.divInt L (3 * b) < Rat.divInt d b) = decide (L < 3 * d) := by
  have := lim_le (d := d) (L := L) hb
  by_cases h : 3 * d ≤ L
  · rw [decide_eq_true h] at this
    rw [decide_eq_false (Rat.not_lt.mpr (of_decide_eq_true this)), decide_eq_false (by omega)]
  · rw [decide_eq_false h] at this
    rw [decide_eq_true (Rat.not_le.mp (of_decide_eq_false this)), decide_eq_true (by omega)]
def word (d : Int) (o : Option Int) (L : Int) : Str := if (match o with | none => false | some x => decide (3 * x ≤ L)) = true then "within" else if L < 3 * -d then "over" else "maybe"
theorem verdict_w (h : Gd m p b rs) {lo hi : Nat} (h1 : lo < hi) (h2 : hi ≤ m) {d : Int} (ed : Tl m rs hi lo = some d) {L : Int} {q : Rat} (hq : q = Rat.divInt L (3 * b)) (sq : SzQ 800 q) : F_limit_verdict [.int (m : Int), .lst (rs.map (tlD b)), .int (lo : Int), .int (hi : Int), rq q] w = .ok (.str (word d (Tl m rs lo hi) L)) w := by
  have b1 := h.b1
  have ct := fun w : Wd => check_tellings_w (w := w) h.m1 h.m6 ⟨h.b1, h.b3⟩ h.ok h.ln (c := D.lst) (.inl rfl)
  have cm := fun w : Wd => check_marks_w (w := w) h1 h2
  have ir := fun (q : Rat) (w : Wd) => isr_q (w := w) q
  have cf := fun w : Wd => check_fit_w (w := w) h (c := D.tup) (.inr rfl)
  obtain ⟨d', t1, t2, ed', bt⟩ := between_w h h1 h2 (c := D.tup) (.inr rfl)
  rw [ed] at ed'; cases ed'
  have f1 : ∀ (x y z t : D) (w : Wd), fldO [101] "most" (sbD x y z t) w = .ok y w := fun x y z t w => rfl
  have f2 : ∀ (x y z t : D) (w : Wd), fldO [101] "least" (sbD x y z t) w = .ok x w := fun x y z t w => rfl
  have s1 := (mo_sz h ed).neg
  have c1 := fun w : Wd => compare_q (w := w) s1 sq (by decide)
  have p1 : decide (0 < cmpQ (-Rat.divInt d b) q) = decide (L < 3 * -d) := by rw [cmp_pos, hq, neg_div, lim_lt (by omega)]
  cases e : Tl m rs lo hi with
  | none =>
    rw [e] at bt
    unfold F_limit_verdict word
    by_cases c : L < 3 * -d
    · rw [decide_eq_true c] at p1
      simp? only [Nat.reduceSub, Nat.reduceAdd, ↓ct, ↓cm, ↓ir, ↓cf, ↓bt, ↓f1, ↓f2, moD, ↓c1, p1, Bool.false_eq_true, if_false, if_pos c]
    · rw [decide_eq_false c] at p1
      simp? only [Nat.reduceSub, Nat.reduceAdd, ↓ct, ↓cm, ↓ir, ↓cf, ↓bt, ↓f1, ↓f2, moD, ↓c1, p1, Bool.false_eq_true, if_false, if_neg c]
  | some x =>
    rw [e] at bt
    have c2 := fun w : Wd => compare_q (w := w) (mo_sz h e) sq (by decide)
    have p2 : decide (cmpQ (Rat.divInt x b) q ≤ 0) = decide (3 * x ≤ L) := by rw [cmp_le, hq, lim_le (by omega)]
    have nn : ∀ (q : Rat) (w : Wd), notNonD (rq q) .non w = .ok (.bl true) w := fun q w => rfl
    unfold F_limit_verdict word
    by_cases c' : 3 * x ≤ L
    · rw [decide_eq_true c'] at p2
      simp? only [Nat.reduceSub, Nat.reduceAdd, ↓ct, ↓cm, ↓ir, ↓cf, ↓bt, ↓f1, ↓f2, moD, ↓nn, ↓c2, p2, decide_eq_true c', if_true]
    · rw [decide_eq_false c'] at p2
      by_cases c : L < 3 * -d
      · rw [decide_eq_true c] at p1
        simp? only [Nat.reduceSub, Nat.reduceAdd, ↓ct, ↓cm, ↓ir, ↓cf, ↓bt, ↓f1, ↓f2, moD, ↓nn, ↓c2, p2, ↓c1, p1, decide_eq_false c', Bool.false_eq_true, if_false, if_pos c]
      · rw [decide_eq_false c] at p1
        simp? only [Nat.reduceSub, Nat.reduceAdd, ↓ct, ↓cm, ↓ir, ↓cf, ↓bt, ↓f1, ↓f2, moD, ↓nn, ↓c2, p2, ↓c1, p1, decide_eq_false c', Bool.false_eq_true, if_false, if_neg c]
end
end K49
namespace K49
open PySem FL GB
variable {w : Wd}
def wo {α : Type} (k : Nat) (xs : List α) : List α := xs.take k ++ xs.drop (k + 1)
theorem wo_map {α β : Type} (f : α → β) (k : Nat) (xs : List α) : (wo k xs).map f = (xs.map f).take k ++ (xs.map f).drop (k + 1) := by
  unfold wo
  rw [List.map_append, List.map_take, List.map_drop]
theorem wo_mem {α : Type} {k : Nat} {xs : List α} {x : α} (h : x ∈ wo k xs) : x ∈ xs := by
  rcases List.mem_append.mp h with h | h
  · exact List.mem_of_mem_take h
  · exact List.mem_of_mem_drop h
theorem wo_len {α : Type} (k : Nat) (xs : List α) : (wo k xs).length ≤ xs.length := by
  unfold wo
  rw [List.length_append, List.length_take, List.length_drop]
  omega
theorem slK_t {xs : List D} {k : Nat} (h : k < xs.length) : slK (.tup xs) none (.int (k : Int)) w = .ok (.tup (xs.take k)) w := by
  have c : ¬ (cutAt xs.length 0 none = 0 ∧ cutAt xs.length xs.length (some (k : Int)) = xs.length) := by
    unfold cutAt
    simp only [if_pos (Int.natCast_nonneg k), Int.toNat_natCast]
    omega
  show (if ¬ (cutAt xs.length 0 none = 0 ∧ cutAt xs.length xs.length (some (k : Int)) = xs.length) then M.ret (D.tup (cutL xs none (some (k : Int)))) else M.fail) w = _
  rw [if_pos c]
  have e := slK_v (w := w) xs k
  have e : R.ok (D.lst (cutL xs none (some (k : Int)))) w = .ok (D.lst (xs.take k)) w := e
  injection e with e
  injection e with e
  rw [e]; rfl
theorem slL_t {xs : List D} {k : Nat} (h : k < xs.length) : slL (.tup xs) (.int ((k : Int) + 1)) w = .ok (.tup (xs.drop (k + 1))) w := by
  have c : ¬ (cutAt xs.length 0 (some ((k : Int) + 1)) = 0 ∧ cutAt xs.length xs.length none = xs.length) := by
    unfold cutAt
    simp only [if_pos (show 0 ≤ (k : Int) + 1 by omega)]
    omega
  show (if ¬ (cutAt xs.length 0 (some ((k : Int) + 1)) = 0 ∧ cutAt xs.length xs.length none = xs.length) then M.ret (D.tup (cutL xs (some ((k : Int) + 1)) none)) else M.fail) w = _
  rw [if_pos c]
  have e := slL_v (w := w) xs (k + 1)
  have e : R.ok (D.lst (cutL xs (some ((k : Int) + 1)) none)) w = .ok (D.lst (xs.drop (k + 1))) w := e
  injection e with e
  injection e with e
  rw [e]; rfl
theorem slL_1 (xs : List D) (k : Nat) : slL (.lst xs) (.int ((k : Int) + 1)) w = .ok (.lst (xs.drop (k + 1))) w := slL_v xs (k + 1)
theorem addT_i (i j : Int) : addTD (.int i) (.int j) w = .ok (.int (i + j)) w := rfl
theorem addT_t {a b : List D} (h : a.length + b.length ≤ line) : addTD (.tup a) (.tup b) w = .ok (.tup (a ++ b)) w := by
  cases a with
  | nil =>
    show (if b.length ≤ line then M.ret (D.tup b) else M.fail) w = _
    rw [if_pos (by rw [List.length_nil] at h; omega)]; rfl
  | cons x a =>
    show (if (x :: a) ≠ [] ∧ (x :: a).length + b.length ≤ line then M.ret (D.tup (x :: a ++ b)) else M.fail) w = _
    rw [if_pos ⟨fun z => (nomatch z), h⟩]; rfl
section
variable {m : Nat} {p : Nat → Int} {b : Int} {rs : List Rw}
theorem Gd.wo (h : Gd m p b rs) (k : Nat) : Gd m p b (wo k rs) := ⟨h.m1, h.m6, h.b1, h.b3, fun r hr => h.ok r (wo_mem hr), h.st, Nat.le_trans (wo_len k rs) h.ln⟩
def ndB (m : Nat) (rs : List Rw) (k : Nat) (r : Rw) : Bool := match Tl m (K49.wo k rs) r.lo r.hi with
  | none => false
  | some x => decide (x ≤ r.u) && decide (r.l ≤ -(Tl m (K49.wo k rs) r.hi r.lo).getD 0)
def nds (m : Nat) (rs : List Rw) : Nat → List Rw → List Int
  | _, [] => []
  | k, r :: t => (if ndB m rs k r = true then [(k : Int)] else []) ++ nds m rs (k + 1) t
theorem div_le_iff {a c : Int} (hb : 0 < b) : decide (Rat.divInt a b ≤ Rat.divInt c b) = decide (a ≤ c) := by
  by_cases h : a ≤ c
  · rw [decide_eq_true h, decide_eq_true (div_le hb h)]
  · rw [decide_eq_false h, decide_eq_false (Rat.not_le.mpr (div_lt hb (by omega)))]
theorem ndL (h : Gd m p b rs) : ∀ (t : List Rw) (k : Nat) (xs : List Int) (s3 s4 s5 s6 s7 s8 : Slot), rs.drop k = t → xs.length + t.length ≤ 100 → ∃ s3' s4' s5' s6' s7' s8' : Slot, ∀ w : Wd, forL (gTN 3 [4, 5, 6, 7]) B_needless_tellings_0 (enumAt k (t.map (tlD b))) [.val (.int (m : Int)), .val (.tup (rs.map (tlD b))), .own (xs.map D.int), s3, s4, s5, s6, s7, s8] w = .nx [.val (.int (m : Int)), .val (.tup (rs.map (tlD b))), .own ((xs ++ nds m rs k t).map D.int), s3', s4', s5', s6', s7', s8'] w
  | [], k, xs, s3, s4, s5, s6, s7, s8, _, _ => ⟨s3, s4, s5, s6, s7, s8, fun w => by
    show _ = SR.nx [.val (.int (m : Int)), .val (.tup (rs.map (tlD b))), .own ((xs ++ []).map D.int), s3, s4, s5, s6, s7, s8] w
    rw [List.append_nil]; rfl⟩
  | r :: t, k, xs, s3, s4, s5, s6, s7, s8, ht, hl => by
    rw [List.length_cons] at hl
    have b1 := h.b1
    have b3 := h.b3
    have hk : k < rs.length := by
      have := congrArg List.length ht
      rw [List.length_drop, List.length_cons] at this
      omega
    have hr : r ∈ rs := List.mem_of_mem_drop (by rw [ht]; exact List.mem_cons_self ..)
    have o := h.ok r hr
    have ht' : rs.drop (k + 1) = t := by
      rw [← List.drop_drop, ht]; rfl
    obtain ⟨d, t1, t2, ed, bt⟩ := between_w (h.wo k) (lo := r.lo) (hi := r.hi) o.lt o.le (c := D.tup) (.inr rfl)
    obtain ⟨s3', s4', s5', s6', s7', s8', e⟩ := ndL h t (k + 1) (xs ++ if ndB m rs k r = true then [(k : Int)] else []) (.val (.int (k : Int))) (.val (.int (r.lo : Int))) (.val (.int (r.hi : Int))) (.val (rq (Rat.divInt r.l b))) (.val (rq (Rat.divInt r.u b))) (.val (sbD (rq (-Rat.divInt d b)) (moD b (Tl m (K49.wo k rs) r.lo r.hi)) t1 t2)) ht' (by
      rw [List.length_append]
      split <;> simp only [List.length_singleton, List.length_nil] <;> omega)
    refine ⟨s3', s4', s5', s6', s7', s8', fun w => ?_⟩
    have e := e w
    have ll : (xs.map D.int).length < line := lt_line (by rw [List.length_map]; omega)
    have l1 : (rs.map (tlD b)).length ≤ 100 := by rw [List.length_map]; have := h.ln; omega
    have hk' : k < (rs.map (tlD b)).length := by rw [List.length_map]; exact hk
    have a1 := fun w : Wd => slK_t (w := w) hk'
    have a2 := fun w : Wd => slL_t (w := w) hk'
    have a3 := fun w : Wd => addT_t (w := w) (a := (rs.map (tlD b)).take k) (b := (rs.map (tlD b)).drop (k + 1)) (le_line (by rw [List.length_take, List.length_drop]; omega))
    rw [← wo_map] at a3
    have a4 := fun (i j : Int) (w : Wd) => addT_i (w := w) i j
    have em : xs.map D.int ++ [D.int (k : Int)] = (xs ++ [(k : Int)]).map D.int := by simp
    have eb : xs ++ nds m rs k (r :: t) = xs ++ (if ndB m rs k r = true then [(k : Int)] else []) ++ nds m rs (k + 1) t := by
      rw [List.append_assoc]; rfl
    have f1 : ∀ (x y z t : D) (w : Wd), fldO [101] "most" (sbD x y z t) w = .ok y w := fun x y z t w => rfl
    have f2 : ∀ (x y z t : D) (w : Wd), fldO [101] "least" (sbD x y z t) w = .ok x w := fun x y z t w => rfl
    have nn : ∀ (q : Rat) (w : Wd), notNonD (rq q) .non w = .ok (.bl true) w := fun q w => rfl
    have bl := o.bl
    have bu := o.bu
    have su := q_sz (a := r.u) (b := b) (by omega) (by omega)
    have sl := q_sz (a := r.l) (b := b) (by omega) (by omega)
    have s1 := (mo_sz (h.wo k) ed).neg
    have c1 := fun w : Wd => compare_q (w := w) s1 sl (by decide)
    have p1 : decide (cmpQ (-Rat.divInt d b) (Rat.divInt r.l b) ≥ 0) = decide (r.l ≤ -d) := by
      have := cmp_ge (x := -Rat.divInt d b) (y := Rat.divInt r.l b)
      rw [neg_div] at this ⊢
      rw [div_le_iff (by omega)] at this
      exact this
    rw [eb]
    show forL (gTN 3 [4, 5, 6, 7]) B_needless_tellings_0 (.tup [.int (k : Int), tlD b r] :: enumAt (k + 1) (t.map (tlD b))) _ w = _
    rw [forG (ρ1 := [.val (.int (m : Int)), .val (.tup (rs.map (tlD b))), .own (xs.map D.int), .val (.int (k : Int)), .val (.int (r.lo : Int)), .val (.int (r.hi : Int)), .val (rq (Rat.divInt r.l b)), .val (rq (Rat.divInt r.u b)), s8]) rfl]
    have nd : ndB m rs k r = match Tl m (K49.wo k rs) r.lo r.hi with
      | none => false
      | some x => decide (x ≤ r.u) && decide (r.l ≤ -d) := by
      unfold ndB
      rw [ed]; rfl
    cases et : Tl m (K49.wo k rs) r.lo r.hi with
    | none =>
      rw [et] at bt nd e
      rw [nd] at e ⊢
      simp only [Bool.false_eq_true, if_false, List.append_nil] at e ⊢
      simp? only [Nat.reduceSub, Nat.reduceAdd, B_needless_tellings_0_w, ↓a4, ↓a1, ↓a2, ↓a3, ↓bt, ↓f1, moD]
      exact e
    | some x =>
      rw [et] at bt nd e
      have c2 := fun w : Wd => compare_q (w := w) (mo_sz (h.wo k) et) su (by decide)
      have p2 : decide (cmpQ (Rat.divInt x b) (Rat.divInt r.u b) ≤ 0) = decide (x ≤ r.u) := by rw [cmp_le, div_le_iff (by omega)]
      simp only at nd
      by_cases k1 : x ≤ r.u
      · rw [decide_eq_true k1] at p2 nd
        by_cases k2 : r.l ≤ -d
        · rw [decide_eq_true k2] at p1 nd
          simp only [nd, Bool.and_self, if_true] at e ⊢
          simp? only [Nat.reduceSub, Nat.reduceAdd, B_needless_tellings_0_w, ↓a4, ↓a1, ↓a2, ↓a3, ↓bt, ↓f1, ↓f2, moD, ↓nn, ↓c2, p2, ↓c1, p1, appK_v 2 _ ll, em]
          exact e
        · rw [decide_eq_false k2] at p1 nd
          simp only [nd, Bool.and_false, Bool.false_eq_true, if_false, List.append_nil] at e ⊢
          simp? only [Nat.reduceSub, Nat.reduceAdd, B_needless_tellings_0_w, ↓a4, ↓a1, ↓a2, ↓a3, ↓bt, ↓f1, ↓f2, moD, ↓nn, ↓c2, p2, ↓c1, p1]
          exact e
      · rw [decide_eq_false k1] at p2 nd
        simp only [nd, Bool.false_and, Bool.false_eq_true, if_false, List.append_nil] at e ⊢
        simp? only [Nat.reduceSub, Nat.reduceAdd, B_needless_tellings_0_w, ↓a4, ↓a1, ↓a2, ↓a3, ↓bt, ↓f1, ↓f2, moD, ↓nn, ↓c2, p2]
        exact e
theorem needless_w (h : Gd m p b rs) {c : List D → D} (hc : c = D.lst ∨ c = D.tup) : F_needless_tellings [.int (m : Int), c (rs.map (tlD b))] w = .ok (.tup ((nds m rs 0 rs).map D.int)) w := by
  have ct := fun w : Wd => check_tellings_w (w := w) h.m1 h.m6 ⟨h.b1, h.b3⟩ h.ok h.ln hc
  have cf := fun w : Wd => check_fit_w (w := w) h (c := D.tup) (.inr rfl)
  obtain ⟨s3, s4, s5, s6, s7, s8, e⟩ := ndL h rs 0 [] .none .none .none .none .none .none rfl (by have := h.ln; simp; omega)
  have e := e w
  rw [List.nil_append, List.map_nil] at e
  unfold F_needless_tellings
  simp? only [Nat.reduceSub, Nat.reduceAdd, ↓ct, ↓cf, ↓e]
end
end K49
namespace K49
open PySem FL GB
variable {w : Wd}
section
variable {m : Nat} {p : Nat → Int} {b : Int} {rs : List Rw}
def wdI (m : Nat) (rs : List Rw) (t : Nat × Nat) (x : Int) : Int := x + (Tl m rs t.2 t.1).getD 0
def bet (best : Option (Nat × Int)) (k : Nat) (v : Int) : Option (Nat × Int) := match best with
  | none => some (k, v)
  | some q => if q.2 < v then some (k, v) else some q
def wdR (m : Nat) (rs : List Rw) : Nat → List (Nat × Nat) → Option (Nat × Int) → Option (Nat × Option Int)
  | _, [], best => best.map fun q => (q.1, some q.2)
  | k, t :: ts, best => match Tl m rs t.1 t.2 with
    | none => some (k, none)
    | some x => wdR m rs (k + 1) ts (bet best k (wdI m rs t x))
def wlD (f : Int → D) : Option (Nat × Option Int) → D
  | none => .non
  | some (k, none) => .tup [.int (k : Int), .non]
  | some (k, some x) => .tup [.int (k : Int), f x]
def beD (f : Int → D) : Option (Nat × Int) → D
  | none => .non
  | some q => .tup [.int (q.1 : Int), f q.2]
theorem wl_be (f : Int → D) (best : Option (Nat × Int)) : wlD f (best.map fun q => (q.1, some q.2)) = beD f best := by cases best <;> rfl
def qf (b : Int) (x : Int) : D := rq (Rat.divInt x b)
theorem wd_sz (h : Gd m p b rs) {t : Nat × Nat} {x : Int} (e : Tl m rs t.1 t.2 = some x) : Sz 742 (wdI m rs t x) := by
  have a := h.sz e
  unfold wdI
  have : Sz 740 ((Tl m rs t.2 t.1).getD 0) := by
    cases e2 : Tl m rs t.2 t.1 with
    | none => unfold Sz; exact Nat.two_pow_pos _
    | some d => exact h.sz e2
  unfold Sz at *
  rw [show 742 = 740 + 2 by decide, Nat.pow_add]
  omega
def SzB (best : Option (Nat × Int)) : Prop := ∀ q, best = some q → Sz 742 q.2
theorem bet_sz {best : Option (Nat × Int)} {k : Nat} {v : Int} (h : SzB best) (hv : Sz 742 v) : SzB (bet best k v) := fun q e => by
  unfold bet at e
  cases best with
  | none => cases e; exact hv
  | some q' =>
    simp only at e
    split at e
    · cases e; exact hv
    · cases e; exact h _ rfl
theorem wdR_sz (h : Gd m p b rs) : ∀ (ts : List (Nat × Nat)) (k : Nat) (best : Option (Nat × Int)), SzB best → ∀ n x, wdR m rs k ts best = some (n, some x) → Sz 742 x
  | [], k, best, hb, n, x, e => by
    cases best with
    | none => cases e
    | some q => cases e; exact hb _ rfl
  | t :: ts, k, best, hb, n, x, e => by
    unfold wdR at e
    cases et : Tl m rs t.1 t.2 with
    | none => rw [et] at e; cases e
    | some y =>
      rw [et] at e
      exact wdR_sz h ts (k + 1) _ (bet_sz hb (wd_sz h et)) n x e
theorem qsz {x : Int} (h : Sz 742 x) (b1 : 1 ≤ b) (b3 : b ≤ 3) : SzQ 742 (Rat.divInt x b) := by
  rw [Rat.divInt_eq_div]
  have h2 : b.natAbs < 2 ^ 742 := Nat.lt_of_le_of_lt (show b.natAbs ≤ 3 by omega) (by decide +kernel)
  have := (bq_div (a := x) (b := b) (by omega) (Nat.le_refl _) (Nat.le_refl _)).sz (show x.natAbs < 2 ^ 742 from h) h2
  rwa [Rat.divInt_eq_div] at this
theorem sub_div (x d : Int) : Rat.divInt x b - -Rat.divInt d b = Rat.divInt (x + d) b := by
  rw [Rat.divInt_eq_div, Rat.divInt_eq_div, Rat.divInt_eq_div, Rat.intCast_add]
  grind
theorem div_lt_iff {a c : Int} (hb : 0 < b) : decide (Rat.divInt a b < Rat.divInt c b) = decide (a < c) := by
  by_cases h : a < c
  · rw [decide_eq_true h, decide_eq_true (div_lt hb h)]
  · rw [decide_eq_false h, decide_eq_false (Rat.not_lt.mpr (div_le hb (by omega)))]
theorem ntL (h : Gd m p b rs) {s1 s2 : Slot} (hs : s1 = .val (.tup (rs.map (tlD b)))) : ∀ (ts : List (Nat × Nat)) (k : Nat) (best : Option (Nat × Int)) (s4 s5 s6 s7 s8 : Slot), (∀ t ∈ ts, t.1 < t.2 ∧ t.2 ≤ m) → SzB best → (∃ n, wdR m rs k ts best = some (n, none) ∧ ∀ w : Wd, forL (gTN 4 [5, 6]) B_next_tie_0 (enumAt k (ts.map tiD)) [.val (.int (m : Int)), s1, s2, .val (beD (qf b) best), s4, s5, s6, s7, s8] w = .rt (.tup [.int (n : Int), .non]) w) ∨ (∃ (best' : Option (Nat × Int)) (s4' s5' s6' s7' s8' : Slot), wdR m rs k ts best = best'.map (fun q => (q.1, some q.2)) ∧ ∀ w : Wd, forL (gTN 4 [5, 6]) B_next_tie_0 (enumAt k (ts.map tiD)) [.val (.int (m : Int)), s1, s2, .val (beD (qf b) best), s4, s5, s6, s7, s8] w = .nx [.val (.int (m : Int)), s1, s2, .val (beD (qf b) best'), s4', s5', s6', s7', s8'] w)
  | [], k, best, s4, s5, s6, s7, s8, _, _ => .inr ⟨best, s4, s5, s6, s7, s8, rfl, fun w => rfl⟩
  | t :: ts, k, best, s4, s5, s6, s7, s8, ht, hb => by
    have b1 := h.b1
    have b3 := h.b3
    have o := ht t (List.mem_cons_self ..)
    obtain ⟨d, t1, t2, ed, bt⟩ := between_w h (lo := t.1) (hi := t.2) o.1 o.2 (c := D.tup) (.inr rfl)
    have f1 : ∀ (x y z t : D) (w : Wd), fldO [101] "most" (sbD x y z t) w = .ok y w := fun x y z t w => rfl
    have f2 : ∀ (x y z t : D) (w : Wd), fldO [101] "least" (sbD x y z t) w = .ok x w := fun x y z t w => rfl
    have hg : ∀ w : Wd, forL (gTN 4 [5, 6]) B_next_tie_0 (enumAt k ((t :: ts).map tiD)) [.val (.int (m : Int)), s1, s2, .val (beD (qf b) best), s4, s5, s6, s7, s8] w = loopF (B_next_tie_0 [.val (.int (m : Int)), s1, s2, .val (beD (qf b) best), .val (.int (k : Int)), .val (.int (t.1 : Int)), .val (.int (t.2 : Int)), s7, s8] w) (gTN 4 [5, 6]) B_next_tie_0 (enumAt (k + 1) (ts.map tiD)) := fun w => forG rfl
    subst hs
    cases et : Tl m rs t.1 t.2 with
    | none =>
      refine .inl ⟨k, by unfold wdR; rw [et], fun w => ?_⟩
      rw [et] at bt
      rw [hg]
      simp? only [Nat.reduceSub, Nat.reduceAdd, B_next_tie_0_w, ↓bt, ↓f1, moD]
    | some x =>
      rw [et] at bt
      have sw := wd_sz h et
      have ew : wdI m rs t x = x + d := by unfold wdI; rw [ed]; rfl
      have ih := ntL h (s1 := .val (.tup (rs.map (tlD b)))) (s2 := s2) rfl ts (k + 1) (bet best k (x + d)) (.val (.int (k : Int))) (.val (.int (t.1 : Int))) (.val (.int (t.2 : Int))) (.val (sbD (rq (-Rat.divInt d b)) (rq (Rat.divInt x b)) t1 t2)) (.val (rq (Rat.divInt (x + d) b))) (fun y hy => ht y (List.mem_cons_of_mem _ hy)) (bet_sz hb (by rw [← ew]; exact sw))
      have er : wdR m rs k (t :: ts) best = wdR m rs (k + 1) ts (bet best k (x + d)) := by
        show (match Tl m rs t.1 t.2 with | none => some (k, none) | some x => wdR m rs (k + 1) ts (bet best k (wdI m rs t x))) = _
        rw [et]
        simp only
        rw [ew]
      rw [er]
      have mi := fun w : Wd => minus_q (w := w) (mo_sz h et) (mo_sz h ed).neg (by decide)
      rw [sub_div] at mi
      have body : ∀ w : Wd, B_next_tie_0 [.val (.int (m : Int)), .val (.tup (rs.map (tlD b))), s2, .val (beD (qf b) best), .val (.int (k : Int)), .val (.int (t.1 : Int)), .val (.int (t.2 : Int)), s7, s8] w = .nx [.val (.int (m : Int)), .val (.tup (rs.map (tlD b))), s2, .val (beD (qf b) (bet best k (x + d))), .val (.int (k : Int)), .val (.int (t.1 : Int)), .val (.int (t.2 : Int)), .val (sbD (rq (-Rat.divInt d b)) (rq (Rat.divInt x b)) t1 t2), .val (rq (Rat.divInt (x + d) b))] w := fun w => by
        have nn : ∀ (q : Rat) (w : Wd), isNonD (rq q) .non w = .ok (.bl false) w := fun q w => rfl
        cases best with
        | none =>
          simp? only [Nat.reduceSub, Nat.reduceAdd, B_next_tie_0_w, ↓bt, ↓f1, ↓f2, moD, ↓nn, ↓mi, beD, bet, qf]
        | some q =>
          have co := fun w : Wd => compare_q (w := w) (qsz (b := b) (x := x + d) (by rw [← ew]; exact sw) b1 b3) (qsz (b := b) (hb q rfl) b1 b3) (by decide)
          have p1 : decide (0 < cmpQ (Rat.divInt (x + d) b) (Rat.divInt q.2 b)) = decide (q.2 < x + d) := by rw [cmp_pos, div_lt_iff (by omega)]
          have n2 : ∀ (a c : D) (w : Wd), isNonD (.tup [a, c]) .non w = .ok (.bl false) w := fun a c w => rfl
          by_cases c : q.2 < x + d
          · rw [decide_eq_true c] at p1
            simp? only [Nat.reduceSub, Nat.reduceAdd, B_next_tie_0_w, ↓bt, ↓f1, ↓f2, moD, ↓nn, ↓mi, beD, bet, ↓n2, qf, ↓co, p1, if_pos c]
          · rw [decide_eq_false c] at p1
            simp? only [Nat.reduceSub, Nat.reduceAdd, B_next_tie_0_w, ↓bt, ↓f1, ↓f2, moD, ↓nn, ↓mi, beD, bet, ↓n2, qf, ↓co, p1, if_neg c]
      rcases ih with ⟨n, e1, e2⟩ | ⟨best', s4', s5', s6', s7', s8', e1, e2⟩
      · refine .inl ⟨n, e1, fun w => ?_⟩
        rw [hg, body]
        exact e2 w
      · refine .inr ⟨best', s4', s5', s6', s7', s8', e1, fun w => ?_⟩
        rw [hg, body]
        exact e2 w
theorem next_tie_w (h : Gd m p b rs) {ts : List (Nat × Nat)} (ht : ∀ t ∈ ts, t.1 < t.2 ∧ t.2 ≤ m) (hl : ts.length ≤ 24) {c c' : List D → D} (hc : c = D.lst ∨ c = D.tup) (hc' : c' = D.lst ∨ c' = D.tup) : F_next_tie [.int (m : Int), c (rs.map (tlD b)), c' (ts.map tiD)] w = .ok (wlD (qf b) (wdR m rs 0 ts none)) w := by
  have ct := fun w : Wd => check_tellings_w (w := w) h.m1 h.m6 ⟨h.b1, h.b3⟩ h.ok h.ln hc
  have ci := fun w : Wd => check_ties_w (w := w) h.m1 h.m6 ht hl hc'
  have cf := fun w : Wd => check_fit_w (w := w) h (c := D.tup) (.inr rfl)
  rcases ntL h (s1 := .val (.tup (rs.map (tlD b)))) (s2 := .val (.tup (ts.map tiD))) rfl ts 0 none .none .none .none .none .none ht (fun q z => by cases z) with ⟨n, e1, e2⟩ | ⟨best', s4', s5', s6', s7', s8', e1, e2⟩
  · have e2 := e2 w
    rw [show beD (qf b) none = .non from rfl] at e2
    rw [e1]
    unfold F_next_tie
    simp? only [Nat.reduceSub, Nat.reduceAdd, ↓ct, ↓ci, ↓cf, ↓e2]
    rfl
  · have e2 := e2 w
    rw [show beD (qf b) none = .non from rfl] at e2
    rw [e1, wl_be]
    unfold F_next_tie
    simp? only [Nat.reduceSub, Nat.reduceAdd, ↓ct, ↓ci, ↓cf, ↓e2]
theorem wlL (h : Gd m p b rs) {ts0 : List (Nat × Nat)} : ∀ (ts : List (Nat × Nat)) (k : Nat) (best : Option (Nat × Int)) (s3 s4 s5 s6 : Slot), ts0.drop k = ts → (∀ t ∈ ts, t.1 < t.2 ∧ t.2 ≤ m) → (∃ n, wdR m rs k ts best = some (n, none) ∧ ∀ w : Wd, forL (gN 3) B__law_widest_0 (rng k ts.length) [.val (.lst (tabD (m + 1) (Tl m rs))), .val (.lst (ts0.map tiD)), .val (beD D.int best), s3, s4, s5, s6] w = .rt (.tup [.int (n : Int), .non]) w) ∨ (∃ (best' : Option (Nat × Int)) (s3' s4' s5' s6' : Slot), wdR m rs k ts best = best'.map (fun q => (q.1, some q.2)) ∧ ∀ w : Wd, forL (gN 3) B__law_widest_0 (rng k ts.length) [.val (.lst (tabD (m + 1) (Tl m rs))), .val (.lst (ts0.map tiD)), .val (beD D.int best), s3, s4, s5, s6] w = .nx [.val (.lst (tabD (m + 1) (Tl m rs))), .val (.lst (ts0.map tiD)), .val (beD D.int best'), s3', s4', s5', s6'] w)
  | [], k, best, s3, s4, s5, s6, _, _ => .inr ⟨best, s3, s4, s5, s6, rfl, fun w => rfl⟩
  | t :: ts, k, best, s3, s4, s5, s6, hd, ht => by
    have o := ht t (List.mem_cons_self ..)
    obtain ⟨d, t1, t2, ed, bt⟩ := between_w h (lo := t.1) (hi := t.2) o.1 o.2 (c := D.tup) (.inr rfl)
    have hd' : ts0.drop (k + 1) = ts := by rw [← List.drop_drop, hd]; rfl
    have hk : ts0[k]? = some t := by
      have := congrArg (fun l => l[0]?) hd
      simpa using this
    have ik : itemAt (ts0.map tiD) (k : Int) = some (tiD t) := itemMap hk
    have r1 := tab_at (n := m + 1) (T := Tl m rs) (a := t.1) (by omega)
    have r2 := row_at (n := m + 1) (T := Tl m rs) (a := t.1) (b := t.2) (by omega)
    have r3 := tab_at (n := m + 1) (T := Tl m rs) (a := t.2) (by omega)
    have r4 := row_at (n := m + 1) (T := Tl m rs) (a := t.2) (b := t.1) (by omega)
    rw [ed] at r4
    have hg : ∀ w : Wd, forL (gN 3) B__law_widest_0 (rng k (t :: ts).length) [.val (.lst (tabD (m + 1) (Tl m rs))), .val (.lst (ts0.map tiD)), .val (beD D.int best), s3, s4, s5, s6] w = loopF (B__law_widest_0 [.val (.lst (tabD (m + 1) (Tl m rs))), .val (.lst (ts0.map tiD)), .val (beD D.int best), .val (.int (k : Int)), s4, s5, s6] w) (gN 3) B__law_widest_0 (rng (k + 1) ts.length) := fun w => forG rfl
    cases et : Tl m rs t.1 t.2 with
    | none =>
      rw [et] at r2
      refine .inl ⟨k, by unfold wdR; rw [et], fun w => ?_⟩
      rw [hg]
      simp? only [Nat.reduceSub, Nat.reduceAdd, B__law_widest_0_w, ik, tiD, r1, r2, oD]
    | some x =>
      rw [et] at r2
      have ew : wdI m rs t x = x + d := by unfold wdI; rw [ed]; rfl
      have ih := wlL h (ts0 := ts0) ts (k + 1) (bet best k (x + d)) (.val (.int (k : Int))) (.val (.int (t.1 : Int))) (.val (.int (t.2 : Int))) (.val (.int (x + d))) hd' (fun y hy => ht y (List.mem_cons_of_mem _ hy))
      have er : wdR m rs k (t :: ts) best = wdR m rs (k + 1) ts (bet best k (x + d)) := by
        show (match Tl m rs t.1 t.2 with | none => some (k, none) | some x => wdR m rs (k + 1) ts (bet best k (wdI m rs t x))) = _
        rw [et]
        simp only
        rw [ew]
      rw [er]
      have body : ∀ w : Wd, B__law_widest_0 [.val (.lst (tabD (m + 1) (Tl m rs))), .val (.lst (ts0.map tiD)), .val (beD D.int best), .val (.int (k : Int)), s4, s5, s6] w = .nx [.val (.lst (tabD (m + 1) (Tl m rs))), .val (.lst (ts0.map tiD)), .val (beD D.int (bet best k (x + d))), .val (.int (k : Int)), .val (.int (t.1 : Int)), .val (.int (t.2 : Int)), .val (.int (x + d))] w := fun w => by
        have nn : ∀ (i : Int) (w : Wd), isNonD (.int i) .non w = .ok (.bl false) w := fun q w => rfl
        cases best with
        | none =>
          simp? only [Nat.reduceSub, Nat.reduceAdd, B__law_widest_0_w, ik, tiD, r1, r2, r3, r4, oD, ↓nn, beD, bet]
        | some q =>
          have n2 : ∀ (a c : D) (w : Wd), isNonD (.tup [a, c]) .non w = .ok (.bl false) w := fun a c w => rfl
          by_cases c : q.2 < x + d
          · have p1 : decide (x + d > q.2) = true := decide_eq_true c
            simp? only [Nat.reduceSub, Nat.reduceAdd, B__law_widest_0_w, ik, tiD, r1, r2, r3, r4, oD, ↓nn, beD, bet, ↓n2, p1, if_pos c]
          · have p1 : decide (x + d > q.2) = false := decide_eq_false c
            simp? only [Nat.reduceSub, Nat.reduceAdd, B__law_widest_0_w, ik, tiD, r1, r2, r3, r4, oD, ↓nn, beD, bet, ↓n2, p1, if_neg c]
      rcases ih with ⟨n, e1, e2⟩ | ⟨best', s3', s4', s5', s6', e1, e2⟩
      · refine .inl ⟨n, e1, fun w => ?_⟩
        rw [hg, body]
        exact e2 w
      · refine .inr ⟨best', s3', s4', s5', s6', e1, fun w => ?_⟩
        rw [hg, body]
        exact e2 w
theorem widest_w (h : Gd m p b rs) {ts : List (Nat × Nat)} (ht : ∀ t ∈ ts, t.1 < t.2 ∧ t.2 ≤ m) (hl : ts.length ≤ 24) : F__law_widest [.lst (tabD (m + 1) (Tl m rs)), .lst (ts.map tiD)] w = .ok (wlD D.int (wdR m rs 0 ts none)) w := by
  have rg := range0 (w := w) ts.length (by omega)
  rcases wlL h (ts0 := ts) ts 0 none .none .none .none .none rfl ht with ⟨n, e1, e2⟩ | ⟨best', s3', s4', s5', s6', e1, e2⟩
  · have e2 := e2 w
    rw [show beD D.int none = .non from rfl] at e2
    rw [e1]
    unfold F__law_widest
    simp? only [Nat.reduceSub, Nat.reduceAdd, List.length_map, rg, ↓e2]
    rfl
  · have e2 := e2 w
    rw [show beD D.int none = .non from rfl] at e2
    rw [e1, wl_be]
    unfold F__law_widest
    simp? only [Nat.reduceSub, Nat.reduceAdd, List.length_map, rg, ↓e2]
end
end K49
namespace K49
open PySem FL GB
variable {w : Wd}
section
variable {m : Nat} {p : Nat → Int} {b : Int} {rs : List Rw}
theorem enum_map {α : Type} (f : α → D) : ∀ (xs : List α) (k : Nat), enumAt k (xs.map f) = (xs.zipIdx k).map fun q => D.tup [.int (q.2 : Int), f q.1]
  | [], _ => rfl
  | x :: xs, k => by
    rw [List.map_cons, List.zipIdx_cons, List.map_cons, ← enum_map f xs (k + 1)]; rfl
theorem suspects_w (h : Gd m p b rs) : F_suspect_tellings [.int (m : Int), .lst (rs.map (tlD b))] w = .ok (.tup (rgD rs.length)) w := by
  have ct := fun w : Wd => check_tellings_w (w := w) h.m1 h.m6 ⟨h.b1, h.b3⟩ h.ok h.ln (c := D.lst) (.inl rfl)
  have ln := h.ln
  have rg := fun w : Wd => range0 (w := w) rs.length (by omega)
  have l1 : (rng 0 rs.length).length ≤ line := le_line (by rw [rng_len]; omega)
  let oth : Nat → D := fun k => .tup ((wo k rs).map (tlD b))
  have lc1 : ∀ (s2 s4 : Slot) (w : Wd), lcL (gN 3) tYes (eBin addTD (eSlice (eVar 1) none (some (eVar 3))) (eSlice (eVar 1) (some (eBin addTD (eVar 3) (eC (.int 1)))) none)) [.val (.int (m : Int)), .val (.tup (rs.map (tlD b))), s2, .none, s4] (rng 0 rs.length) w = .ok ((List.range rs.length).map oth) w := fun s2 s4 w => by
    rw [rng_map]
    refine lcMap (f := fun (k : Nat) => D.int (k : Int)) (g := oth) 3 _ (List.range rs.length) fun k hk => ?_
    have hk := List.mem_range.mp hk
    have hk' : k < (rs.map (tlD b)).length := by rw [List.length_map]; exact hk
    have l1 : (rs.map (tlD b)).length ≤ 100 := by rw [List.length_map]; omega
    have a1 := fun w : Wd => slK_t (w := w) hk'
    have a2 := fun w : Wd => slL_t (w := w) hk'
    have a3 := fun w : Wd => addT_t (w := w) (a := (rs.map (tlD b)).take k) (b := (rs.map (tlD b)).drop (k + 1)) (le_line (by rw [List.length_take, List.length_drop]; omega))
    rw [← wo_map] at a3
    have a4 := fun (i j : Int) (w : Wd) => addT_i (w := w) i j
    simp? only [Nat.reduceSub, Nat.reduceAdd, ↓a4, ↓a1, ↓a2, ↓a3]
    rfl
  have l2 : (enumAt 0 ((List.range rs.length).map oth)).length ≤ line := le_line (by rw [enum_map, List.length_map, List.length_zipIdx, List.length_range]; omega)
  have is : ∀ (xs : List D) (w : Wd), isiO cs_ 100 (.tup xs) w = .ok (.bl false) w := fun xs w => rfl
  have lc2 : ∀ (s2 : Slot) (w : Wd), lcL (gT [3, 4]) (tNot (tTru (eUn (isiO cs_ 100) (eCall F_weights_by [(eVar 0), (eVar 4)])))) (eVar 3) [.val (.int (m : Int)), .val (.tup (rs.map (tlD b))), s2, .none, .none] (enumAt 0 ((List.range rs.length).map oth)) w = .ok (rgD rs.length) w := fun s2 w => by
    have go : ∀ (n k : Nat), k + n ≤ 100 → lcL (gT [3, 4]) (tNot (tTru (eUn (isiO cs_ 100) (eCall F_weights_by [(eVar 0), (eVar 4)])))) (eVar 3) [.val (.int (m : Int)), .val (.tup (rs.map (tlD b))), s2, .none, .none] (enumAt k ((List.range' k n).map oth)) w = .ok ((List.range' k n).map fun (j : Nat) => D.int (j : Int)) w := by
      intro n
      induction n with
      | zero => intro k _; rfl
      | succ n ih =>
        intro k hk
        have ih := ih (k + 1) (by omega)
        obtain ⟨xs, ew⟩ := weights_by_w (h.wo k) (c := D.tup) (.inr rfl)
        rw [List.range'_succ, List.map_cons, List.map_cons]
        show lcL (gT [3, 4]) _ _ _ (.tup [.int (k : Int), oth k] :: enumAt (k + 1) ((List.range' (k + 1) n).map oth)) w = _
        have tt : (tNot (tTru (eUn (isiO cs_ 100) (eCall F_weights_by [(eVar 0), (eVar 4)])))) [.val (.int (m : Int)), .val (.tup (rs.map (tlD b))), s2, .val (.int (k : Int)), .val (.tup ((wo k rs).map (tlD b)))] w = .ok true w := by
          simp? only [Nat.reduceSub, Nat.reduceAdd, ↓ew, ↓is]
        have ee : (eVar 3) [.val (.int (m : Int)), .val (.tup (rs.map (tlD b))), s2, .val (.int (k : Int)), .val (.tup ((wo k rs).map (tlD b)))] w = .ok (.int (k : Int)) w := rfl
        rw [lcG _ _ _ (ρ1 := [.val (.int (m : Int)), .val (.tup (rs.map (tlD b))), s2, .val (.int (k : Int)), .val (.tup ((wo k rs).map (tlD b)))]) rfl]
        show lcT ((tNot (tTru (eUn (isiO cs_ 100) (eCall F_weights_by [(eVar 0), (eVar 4)])))) [.val (.int (m : Int)), .val (.tup (rs.map (tlD b))), s2, .val (.int (k : Int)), .val (.tup ((wo k rs).map (tlD b)))] w) [.val (.int (m : Int)), .val (.tup (rs.map (tlD b))), s2, .val (.int (k : Int)), .val (.tup ((wo k rs).map (tlD b)))] _ _ _ _ _ = _
        rw [tt, lcT_t, ee, lcE_v, ih, bindK_ok, ret_w]
    have e := go rs.length 0 (by omega)
    rw [← List.range_eq_range'] at e
    exact e
  unfold F_suspect_tellings
  simp? only [Nat.reduceSub, Nat.reduceAdd, ↓ct, List.length_map, ↓rg, lcM_v _ _ _ _ l1, ↓lc1, lcM_v _ _ _ _ l2, ↓lc2]
abbrev Ev (s0 s1 s3 s4 s6 s7 s8 s9 s10 s11 s12 s13 s14 s15 s16 : Slot) (m : Nat) (rs : List Rw) (xs : List Int) (s18 s19 s20 : Slot) : FL.Env := [s0, s1, .val (.int (m : Int)), s3, s4, .val (.lst (rs.map rwD)), s6, s7, s8, s9, s10, s11, s12, s13, s14, s15, s16, .own (xs.map D.int), s18, s19, s20]
theorem lawL (h : Gd m p b rs) {s0 s1 s3 s4 s6 s7 s8 s9 s10 s11 s12 s13 s14 s15 s16 : Slot} : ∀ (t : List Rw) (k : Nat) (xs : List Int) (s18 s19 s20 : Slot), rs.drop k = t → xs.length + t.length ≤ 100 → ∃ s18' s19' s20' : Slot, forL (gN 18) B_law_1 (rng k t.length) (Ev s0 s1 s3 s4 s6 s7 s8 s9 s10 s11 s12 s13 s14 s15 s16 m rs xs s18 s19 s20) none = .nx (Ev s0 s1 s3 s4 s6 s7 s8 s9 s10 s11 s12 s13 s14 s15 s16 m rs (xs ++ nds m rs k t) s18' s19' s20') none
  | [], k, xs, s18, s19, s20, _, _ => ⟨s18, s19, s20, by
    show _ = SR.nx (Ev s0 s1 s3 s4 s6 s7 s8 s9 s10 s11 s12 s13 s14 s15 s16 m rs (xs ++ []) s18 s19 s20) none
    rw [List.append_nil]; rfl⟩
  | r :: t, k, xs, s18, s19, s20, ht, hl => by
    rw [List.length_cons] at hl
    have hk : k < rs.length := by
      have := congrArg List.length ht
      rw [List.length_drop, List.length_cons] at this
      omega
    have hr : r ∈ rs := List.mem_of_mem_drop (by rw [ht]; exact List.mem_cons_self ..)
    have o := h.ok r hr
    have ht' : rs.drop (k + 1) = t := by
      rw [← List.drop_drop, ht]; rfl
    have hk0 : rs[k]? = some r := by
      have := congrArg (fun l => l[0]?) ht
      simpa using this
    obtain ⟨d, t1, t2, ed, bt⟩ := between_w (h.wo k) (lo := r.lo) (hi := r.hi) o.lt o.le (c := D.tup) (.inr rfl)
    have ik : itemAt (rs.map rwD) (k : Int) = some (rwD r) := itemMap hk0
    have l0 : (rs.map rwD).length ≤ 100 := by rw [List.length_map]; have := h.ln; omega
    have ad := add_lst (w := none) (a := (rs.map rwD).take k) (b := (rs.map rwD).drop (k + 1)) (le_line (by rw [List.length_take, List.length_drop]; omega))
    rw [← wo_map] at ad
    have lt := law_table_w h.m1 (by have := h.m6; omega) (h.wo k).in' (Nat.le_trans (h.wo k).ln (by decide))
    have r1 := tab_at (n := m + 1) (T := Tl m (wo k rs)) (a := r.lo) (by have := o.lt; have := o.le; omega)
    have r2 := row_at (n := m + 1) (T := Tl m (wo k rs)) (a := r.lo) (b := r.hi) (by have := o.le; omega)
    have r3 := tab_at (n := m + 1) (T := Tl m (wo k rs)) (a := r.hi) (by have := o.le; omega)
    have r4 := row_at (n := m + 1) (T := Tl m (wo k rs)) (a := r.hi) (b := r.lo) (by have := o.lt; have := o.le; omega)
    rw [ed] at r4
    have ll : (xs.map D.int).length < line := lt_line (by rw [List.length_map]; omega)
    have em : xs.map D.int ++ [D.int (k : Int)] = (xs ++ [(k : Int)]).map D.int := by simp
    have eb : xs ++ nds m rs k (r :: t) = xs ++ (if ndB m rs k r = true then [(k : Int)] else []) ++ nds m rs (k + 1) t := by
      rw [List.append_assoc]; rfl
    have nd : ndB m rs k r = match Tl m (wo k rs) r.lo r.hi with
      | none => false
      | some x => decide (x ≤ r.u) && decide (r.l ≤ -d) := by
      unfold ndB
      rw [ed]; rfl
    obtain ⟨s18', s19', s20', e⟩ := lawL h (s0 := s0) (s1 := s1) (s3 := s3) (s4 := s4) (s6 := s6) (s7 := s7) (s8 := s8) (s9 := s9) (s10 := s10) (s11 := s11) (s12 := s12) (s13 := s13) (s14 := s14) (s15 := s15) (s16 := s16) t (k + 1) (xs ++ if ndB m rs k r = true then [(k : Int)] else []) (.val (.int (k : Int))) (.val (.lst (tabD (m + 1) (Tl m (wo k rs))))) (.val (oD (Tl m (wo k rs) r.lo r.hi))) ht' (by
      rw [List.length_append]
      split <;> simp only [List.length_singleton, List.length_nil] <;> omega)
    refine ⟨s18', s19', s20', ?_⟩
    rw [eb]
    have hg : forL (gN 18) B_law_1 (rng k (r :: t).length) (Ev s0 s1 s3 s4 s6 s7 s8 s9 s10 s11 s12 s13 s14 s15 s16 m rs xs s18 s19 s20) none = loopF (B_law_1 (Ev s0 s1 s3 s4 s6 s7 s8 s9 s10 s11 s12 s13 s14 s15 s16 m rs xs (.val (.int (k : Int))) s19 s20) none) (gN 18) B_law_1 (rng (k + 1) t.length) := forG rfl
    rw [hg]
    have body : B_law_1 (Ev s0 s1 s3 s4 s6 s7 s8 s9 s10 s11 s12 s13 s14 s15 s16 m rs xs (.val (.int (k : Int))) s19 s20) none = .nx (Ev s0 s1 s3 s4 s6 s7 s8 s9 s10 s11 s12 s13 s14 s15 s16 m rs (xs ++ if ndB m rs k r = true then [(k : Int)] else []) (.val (.int (k : Int))) (.val (.lst (tabD (m + 1) (Tl m (wo k rs))))) (.val (oD (Tl m (wo k rs) r.lo r.hi)))) none := by
      unfold Tl at *
      cases et : tabL (m + 1) (linksL m (wo k rs)) r.lo r.hi with
      | none =>
        rw [et] at r2 nd
        simp only at nd
        rw [nd]
        simp only [Bool.false_eq_true, if_false, List.append_nil]
        simp? only [Nat.reduceSub, Nat.reduceAdd, B_law_1_w, slK_v, slL_1, ad, ↓lt, ik, rwD, r1, r2, oD]
      | some x =>
        rw [et] at r2 nd
        simp only at nd
        have nn : ∀ (i : Int) (w : Wd), notNonD (.int i) .non w = .ok (.bl true) w := fun q w => rfl
        by_cases k1 : x ≤ r.u
        · rw [decide_eq_true k1] at nd
          by_cases k2 : r.l ≤ -d
          · rw [decide_eq_true k2] at nd
            have k3 : decide (-d ≥ r.l) = true := decide_eq_true k2
            simp only [nd, Bool.and_self, if_true]
            simp? only [Nat.reduceSub, Nat.reduceAdd, B_law_1_w, slK_v, slL_1, ad, ↓lt, ik, rwD, r1, r2, r3, r4, oD, ↓nn, decide_eq_true k1, k3, appK_v 17 _ ll, em]
          · rw [decide_eq_false k2] at nd
            have k3 : decide (-d ≥ r.l) = false := decide_eq_false k2
            simp only [nd, Bool.and_false, Bool.false_eq_true, if_false, List.append_nil]
            simp? only [Nat.reduceSub, Nat.reduceAdd, B_law_1_w, slK_v, slL_1, ad, ↓lt, ik, rwD, r1, r2, r3, r4, oD, ↓nn, decide_eq_true k1, k3]
        · rw [decide_eq_false k1] at nd
          simp only [nd, Bool.false_and, Bool.false_eq_true, if_false, List.append_nil]
          simp? only [Nat.reduceSub, Nat.reduceAdd, B_law_1_w, slK_v, slL_1, ad, ↓lt, ik, rwD, r1, r2, r3, r4, oD, ↓nn, decide_eq_false k1]
    rw [body]
    exact e
end
end K49
namespace K49
open PySem FL GB
variable {w : Wd}
section
variable {m : Nat} {p : Nat → Int} {b : Int} {rs : List Rw}
theorem swap_w {ds : List Int} {d1 : Int} (i1 : itemAt (ds.map D.int) 1 = some (.int d1)) {s0 s2 s3 s6 s7 s8 s9 s10 s11 s12 s13 s14 s15 s16 s17 s18 s19 s20 : Slot} : ∃ rs' : List Rw, rs'.length = rs.length ∧ (∀ r ∈ rs', r ∈ rs) ∧ ∀ w : Wd, sIf (tAnd (tVal (eBin gtD (eVar 4) (eC (.int 1)))) (tVal (eBin eqD (eBin modD (eBin fdivD (eCall (un1 intD) [(eBin ixD (eVar 1) (eC (.int 1)))]) (eC (.int 3))) (eC (.int 3))) (eC (.int 0))))) (sItem 5 (eC (.int 0)) (eOwnIx 5 (eUn negD (eC (.int 1))))) sNext [s0, .val (.lst (ds.map D.int)), s2, s3, .val (.int (rs.length : Int)), .own (rs.map rwD), s6, s7, s8, s9, s10, s11, s12, s13, s14, s15, s16, s17, s18, s19, s20] w = .nx [s0, .val (.lst (ds.map D.int)), s2, s3, .val (.int (rs.length : Int)), .own (rs'.map rwD), s6, s7, s8, s9, s10, s11, s12, s13, s14, s15, s16, s17, s18, s19, s20] w := by
  have m3 := fun (i : Int) (w : Wd) => mod_int (w := w) (i := i) (show (3 : Int) ≠ 0 by decide)
  have f3 := fun (i : Int) (w : Wd) => fdiv_int (w := w) (k := 2) (i := i) (show (3 : Int) ≠ 0 by decide) (by unfold Sz; decide) (by decide)
  by_cases c1 : (rs.length : Int) > 1
  · by_cases c2 : (d1.fdiv 3).fmod 3 = 0
    · have l1 : rs.length ≠ 0 := by omega
      rcases List.eq_nil_or_concat rs with h | ⟨front, last, h⟩
      · rw [h] at l1; exact absurd rfl l1
      rw [List.concat_eq_append] at h
      refine ⟨rs.set 0 last, by rw [List.length_set], fun r hr => ?_, fun w => ?_⟩
      · rcases List.mem_or_eq_of_mem_set hr with z | z
        · exact z
        · rw [z, h]; exact List.mem_append_right _ (List.mem_cons_self ..)
      · have il : itemAt (rs.map rwD) (-1) = some (rwD last) := by
          rw [h, List.map_append]
          exact item_last _ _
        have st : ∀ w : Wd, stK 5 [s0, .val (.lst (ds.map D.int)), s2, s3, .val (.int (rs.length : Int)), .own (rs.map rwD), s6, s7, s8, s9, s10, s11, s12, s13, s14, s15, s16, s17, s18, s19, s20] [rwD last, .int 0] w = .nx [s0, .val (.lst (ds.map D.int)), s2, s3, .val (.int (rs.length : Int)), .own ((rs.set 0 last).map rwD), s6, s7, s8, s9, s10, s11, s12, s13, s14, s15, s16, s17, s18, s19, s20] w := fun w => by
          rw [stK_v (n := 0) rfl (ixP_in (by decide) (by rw [List.length_map]; omega))]
          rw [List.map_set]
          rfl
        simp? only [Nat.reduceSub, Nat.reduceAdd, decide_eq_true c1, i1, ↓f3, ↓m3, c2, beq_self_eq_true, il, ↓st]
    · have k2 : ((d1.fdiv 3).fmod 3 == 0) = false := beq_eq_false_iff_ne.mpr c2
      refine ⟨rs, rfl, fun r hr => hr, fun w => ?_⟩
      simp? only [Nat.reduceSub, Nat.reduceAdd, decide_eq_true c1, i1, ↓f3, ↓m3, k2]
  · refine ⟨rs, rfl, fun r hr => hr, fun w => ?_⟩
    simp? only [Nat.reduceSub, Nat.reduceAdd, decide_eq_false c1]
abbrev El (s0 s1 s4 s5 : Slot) (b : Int) (m lo hi : Nat) (rs : List Rw) (s7 : Slot) (d : Int) (o : Option Int) (s12 s13 s14 s15 s16 s17 s18 s19 s20 : Slot) : FL.Env := [s0, s1, .val (.int (m : Int)), .val (.int b), s4, s5, .val (.lst (rs.map (tlD b))), s7, .val (.int (lo : Int)), .val (.int (hi : Int)), .val (.int (-d)), .val (oD o), s12, s13, s14, s15, s16, s17, s18, s19, s20]
theorem szL {L b : Int} (h : Sz 750 L) (b1 : 1 ≤ b) (b3 : b ≤ 3) : SzQ 800 (Rat.divInt L (3 * b)) := by
  rw [Rat.divInt_eq_div]
  have h1 : L.natAbs < 2 ^ 800 := Nat.lt_of_lt_of_le h (Nat.pow_le_pow_right (by decide) (by decide))
  have h2 : (3 * b).natAbs < 2 ^ 800 := Nat.lt_of_le_of_lt (show (3 * b).natAbs ≤ 9 by omega) (by decide +kernel)
  have := (bq_div (a := L) (b := 3 * b) (by omega) (Nat.le_refl _) (Nat.le_refl _)).sz h1 h2
  rwa [Rat.divInt_eq_div] at this
theorem flat_word (d : Int) (o : Option Int) (L : Int) : D.flat 60 (.str (word d o L)) = true := by
  have go : ∀ (a c : Prop) [Decidable a] [Decidable c], D.flat 60 (.str (if a then "within" else if c then "over" else "maybe")) = true := fun a c _ _ => by
    by_cases h : a
    · rw [if_pos h]; exact okS_of _
    · rw [if_neg h]
      by_cases g : c
      · rw [if_pos g]; exact okS_of _
      · rw [if_neg g]; exact okS_of _
  exact go _ _
theorem limL (h : Gd m p b rs) {lo hi : Nat} (h1 : lo < hi) (h2 : hi ≤ m) {d : Int} (ed : Tl m rs hi lo = some d) {s0 s1 s4 s5 s7 s12 s15 s16 s17 s18 s19 s20 : Slot} : ∀ (Ls : List Int) (s13 s14 : Slot), (∀ L ∈ Ls, Sz 750 L) → ∃ s13' s14' : Slot, ∀ w : Wd, forL (gN 13) B_law_0 (Ls.map D.int) (El s0 s1 s4 s5 b m lo hi rs s7 d (Tl m rs lo hi) s12 s13 s14 s15 s16 s17 s18 s19 s20) w = .nx (El s0 s1 s4 s5 b m lo hi rs s7 d (Tl m rs lo hi) s12 s13' s14' s15 s16 s17 s18 s19 s20) w
  | [], s13, s14, _ => ⟨s13, s14, fun w => rfl⟩
  | L :: Ls, s13, s14, hL => by
    have b1 := h.b1
    have b3 := h.b3
    have sL := hL L (List.mem_cons_self ..)
    obtain ⟨s13', s14', e⟩ := limL h h1 h2 ed (s0 := s0) (s1 := s1) (s4 := s4) (s5 := s5) (s7 := s7) (s12 := s12) (s15 := s15) (s16 := s16) (s17 := s17) (s18 := s18) (s19 := s19) (s20 := s20) Ls (.val (.int L)) (.val (.str (word d (Tl m rs lo hi) L))) fun x hx => hL x (List.mem_cons_of_mem _ hx)
    refine ⟨s13', s14', fun w => ?_⟩
    have e := e w
    have vw := fun w : Wd => verdict_w (w := w) h h1 h2 ed (L := L) rfl (szL sL b1 b3)
    have lr := fun w : Wd => ratio_q (w := w) (a := L) (b := 3 * b) (k := 4) (by omega) (sz_lt (by omega) (by omega)) (by decide)
    have m1 := fun w : Wd => mul_int (w := w) (i := 3) (j := -d) (k := 2) (l := 740) (by unfold Sz; decide) (h.sz ed).neg
    have m2 := fun w : Wd => mul_int (w := w) (i := 3) (j := b) (k := 2) (l := 2) (by unfold Sz; decide) (sz_lt (by omega) (by omega))
    have nq := fun w : Wd => ne_same (w := w) (flat_word d (Tl m rs lo hi) L)
    have hg : forL (gN 13) B_law_0 ((L :: Ls).map D.int) (El s0 s1 s4 s5 b m lo hi rs s7 d (Tl m rs lo hi) s12 s13 s14 s15 s16 s17 s18 s19 s20) w = loopF (B_law_0 (El s0 s1 s4 s5 b m lo hi rs s7 d (Tl m rs lo hi) s12 (.val (.int L)) s14 s15 s16 s17 s18 s19 s20) w) (gN 13) B_law_0 (Ls.map D.int) := forG rfl
    rw [hg]
    have lv : ∀ w : Wd, F__law_verdict [.int (3 * -d), (match Tl m rs lo hi with | none => .non | some x => .int (3 * x)), .int L] w = .ok (.str (word d (Tl m rs lo hi) L)) w := fun w => by
      unfold word
      cases et : Tl m rs lo hi with
      | none =>
        unfold F__law_verdict
        by_cases c : L < 3 * -d
        · simp? only [Nat.reduceSub, Nat.reduceAdd, Bool.false_eq_true, if_false, if_pos c, show decide (3 * -d > L) = true from decide_eq_true c]
        · simp? only [Nat.reduceSub, Nat.reduceAdd, Bool.false_eq_true, if_false, if_neg c, show decide (3 * -d > L) = false from decide_eq_false c]
      | some x =>
        have nn : ∀ (i : Int) (w : Wd), notNonD (.int i) .non w = .ok (.bl true) w := fun q w => rfl
        unfold F__law_verdict
        by_cases c' : 3 * x ≤ L
        · simp? only [Nat.reduceSub, Nat.reduceAdd, ↓nn, decide_eq_true c', if_true]
        · by_cases c : L < 3 * -d
          · simp? only [Nat.reduceSub, Nat.reduceAdd, ↓nn, decide_eq_false c', Bool.false_eq_true, if_false, if_pos c, show decide (3 * -d > L) = true from decide_eq_true c]
          · simp? only [Nat.reduceSub, Nat.reduceAdd, ↓nn, decide_eq_false c', Bool.false_eq_true, if_false, if_neg c, show decide (3 * -d > L) = false from decide_eq_false c]
    have body : B_law_0 (El s0 s1 s4 s5 b m lo hi rs s7 d (Tl m rs lo hi) s12 (.val (.int L)) s14 s15 s16 s17 s18 s19 s20) w = .nx (El s0 s1 s4 s5 b m lo hi rs s7 d (Tl m rs lo hi) s12 (.val (.int L)) (.val (.str (word d (Tl m rs lo hi) L))) s15 s16 s17 s18 s19 s20) w := by
      unfold Tl at *
      cases et : tabL (m + 1) (linksL m rs) lo hi with
      | none =>
        rw [et] at lv vw nq
        simp only at lv
        simp? only [Nat.reduceSub, Nat.reduceAdd, B_law_0_w, oD, ↓m1, ↓m2, ↓lv, ↓lr, ↓vw, ↓nq]
        rfl
      | some x =>
        have nn : ∀ (i : Int) (w : Wd), isNonD (.int i) .non w = .ok (.bl false) w := fun q w => rfl
        have m4 := fun w : Wd => mul_int (w := w) (i := 3) (j := x) (k := 2) (l := 740) (by unfold Sz; decide) (h.sz et)
        rw [et] at lv vw nq
        simp only at lv
        simp? only [Nat.reduceSub, Nat.reduceAdd, B_law_0_w, oD, ↓nn, ↓m1, ↓m2, ↓m4, ↓lv, ↓lr, ↓vw, ↓nq]
        rfl
    rw [body]
    exact e
end
end K49
namespace K49
open PySem FL GB
theorem item_get {ds : List Int} {k : Nat} (h : k < ds.length) : itemAt (ds.map D.int) (k : Int) = some (.int (ds.getD k 0)) := itemMap (by rw [List.getD_eq_getElem?_getD, List.getElem?_eq_getElem h]; rfl)
def farV (d : Int) : Option Int → Int
  | none => -d + 9
  | some x => x
theorem flat_ints (xs : List Int) : D.flat 60 (.tup (xs.map D.int)) = true := show D.flatL 59 (xs.map D.int) = true from flatL_map xs fun _ _ => rfl
theorem flat_rg (n : Nat) : D.flat 60 (.tup (rgD n)) = true := show D.flatL 59 ((List.range n).map fun (k : Nat) => D.int (k : Int)) = true from flatL_map (f := fun (k : Nat) => D.int (k : Int)) _ fun _ _ => rfl
theorem flat_wl (b : Int) (o : Option (Nat × Option Int)) : D.flat 60 (wlD (qf b) o) = true := by
  cases o with
  | none => rfl
  | some q =>
    obtain ⟨k, x⟩ := q
    cases x <;> rfl
theorem plain (ns : List Int) (hl : ns.length ≤ 63) : ∃ w', F_law [.frz (ns.map D.int)] none = .ok (.bl true) w' := by
  obtain ⟨c, ec⟩ := cell_w (w := none) ns
  obtain ⟨ds, e1, dl, d0⟩ := digits_w (w := none) c
  have i0 : itemAt (ds.map D.int) 0 = some (.int (ds.getD 0 0)) := item_get (k := 0) (by omega)
  have i1 : itemAt (ds.map D.int) 1 = some (.int (ds.getD 1 0)) := item_get (k := 1) (by omega)
  have i16 : itemAt (ds.map D.int) 16 = some (.int (ds.getD 16 0)) := item_get (k := 16) (by omega)
  have i22 : itemAt (ds.map D.int) 22 = some (.int (ds.getD 22 0)) := item_get (k := 22) (by omega)
  have rm := mod_rg (x := ds.getD 0 0) (m := 6) (by decide)
  have rb := mod_rg (x := ds.getD 1 0) (m := 3) (by decide)
  have rk := mod_rg (x := (ds.getD 0 0).fdiv 6) (m := 9) (by decide)
  have rt := mod_rg (x := ds.getD 22 0) (m := 6) (by decide)
  obtain ⟨m, em⟩ : ∃ m : Nat, 1 + (ds.getD 0 0).fmod 6 = (m : Int) := ⟨(1 + (ds.getD 0 0).fmod 6).toNat, by omega⟩
  obtain ⟨b, eb⟩ : ∃ b : Int, 1 + (ds.getD 1 0).fmod 3 = b := ⟨_, rfl⟩
  obtain ⟨k, ek⟩ : ∃ k : Nat, ((ds.getD 0 0).fdiv 6).fmod 9 = (k : Int) := ⟨(((ds.getD 0 0).fdiv 6).fmod 9).toNat, by omega⟩
  obtain ⟨t, et⟩ : ∃ t : Nat, (ds.getD 22 0).fmod 6 = (t : Int) := ⟨((ds.getD 22 0).fmod 6).toNat, by omega⟩
  have m1 : 1 ≤ m := by omega
  have m6 : m ≤ 6 := by omega
  have k8 : k ≤ 8 := by omega
  have t5 : t ≤ 5 := by omega
  have b1 : 1 ≤ b := by omega
  have b3 : b ≤ 3 := by omega
  obtain ⟨ws, e3, lw, hw⟩ := weights_w dl m6
  subst lw
  obtain ⟨rs0, e4, l0, ok0⟩ := round_true_w (w := none) dl hw m1 m6 k8
  subst l0
  obtain ⟨rs, lr, sub, e5⟩ := swap_w (rs := rs0) i1 (s0 := .val (.frz (ns.map D.int))) (s2 := .val (.int (ws.length : Int))) (s3 := .val (.int b)) (s6 := .none) (s7 := .none) (s8 := .none) (s9 := .none) (s10 := .none) (s11 := .none) (s12 := .none) (s13 := .none) (s14 := .none) (s15 := .none) (s16 := .none) (s17 := .none) (s18 := .none) (s19 := .none) (s20 := .none)
  have G : Gd ws.length (pre ws) b rs := ⟨m1, by omega, b1, b3, fun r hr => ok0 r (sub r hr), fun a _ => (pre_step hw a).1, by omega⟩
  have e6 := fun w : Wd => told_w (w := w) (rs := rs) (by omega) b1 b3
  have e7 := law_table_w m1 (by omega) G.in' (by omega)
  obtain ⟨lo, hi, e8, lt, le⟩ := tie_w (ds.getD 16 0) m1 (by omega)
  obtain ⟨d, _, _, ed, _⟩ := between_w G lt le (c := D.tup) (.inr rfl)
  have q1 := tab_at (n := ws.length + 1) (T := Tl ws.length rs) (a := hi) (by omega)
  have q2 := row_at (n := ws.length + 1) (T := Tl ws.length rs) (a := hi) (b := lo) (by omega)
  have q3 := tab_at (n := ws.length + 1) (T := Tl ws.length rs) (a := lo) (by omega)
  have q4 := row_at (n := ws.length + 1) (T := Tl ws.length rs) (a := lo) (b := hi) (by omega)
  rw [ed] at q2
  have sd := (G.sz ed).neg
  have sf : Sz 741 (farV d (Tl ws.length rs lo hi)) := by
    cases eo : Tl ws.length rs lo hi with
    | none =>
      show Sz 741 (-d + 9)
      unfold Sz at *
      rw [show 741 = 740 + 1 by decide, Nat.pow_succ]
      have : 9 < (2 : Nat) ^ 740 := by decide +kernel
      omega
    | some x => exact (G.sz eo).mono (by decide)
  have far : ∀ (s12 s13 s14 s15 s16 s17 s18 s19 s20 : Slot) (w : Wd), eIf (tVal (eBin isNonD (eVar 11) (eC .non))) (eBin addD (eVar 10) (eC (.int 9))) (eVar 11) [.val (.frz (ns.map D.int)), .val (.lst (ds.map D.int)), .val (.int (ws.length : Int)), .val (.int b), .val (.int (rs0.length : Int)), .val (.lst (rs.map rwD)), .val (.lst (rs.map (tlD b))), .val (.lst (tabD (ws.length + 1) (Tl ws.length rs))), .val (.int (lo : Int)), .val (.int (hi : Int)), .val (.int (-d)), .val (oD (Tl ws.length rs lo hi)), s12, s13, s14, s15, s16, s17, s18, s19, s20] w = .ok (.int (farV d (Tl ws.length rs lo hi))) w := fun s12 s13 s14 s15 s16 s17 s18 s19 s20 w => by
    unfold Tl
    cases eo : tabL (ws.length + 1) (linksL ws.length rs) lo hi with
    | none => simp? only [Nat.reduceSub, Nat.reduceAdd, oD, farV]
    | some x =>
      have nn : ∀ (i : Int) (w : Wd), isNonD (.int i) .non w = .ok (.bl false) w := fun q w => rfl
      simp? only [Nat.reduceSub, Nat.reduceAdd, oD, farV, ↓nn]
  have mu1 := fun w : Wd => mul_int (w := w) (i := 3) (j := -d) (k := 2) (l := 740) (by unfold Sz; decide) sd
  have mu2 := fun w : Wd => mul_int (w := w) (i := 3) (j := farV d (Tl ws.length rs lo hi)) (k := 2) (l := 741) (by unfold Sz; decide) sf
  have near : ∀ (x y : Int), Sz 741 x → -1 ≤ y → y ≤ 1 → Sz 750 (3 * x + y) := fun x y hx h1 h2 => by
    unfold Sz at *
    rw [show 750 = 741 + 9 by decide, Nat.pow_add]
    have : 0 < (2 : Nat) ^ 741 := Nat.two_pow_pos _
    omega
  have hLs : ∀ L ∈ [3 * -d - 1, 3 * -d, 3 * -d + 1, 3 * farV d (Tl ws.length rs lo hi) - 1, 3 * farV d (Tl ws.length rs lo hi), 3 * farV d (Tl ws.length rs lo hi) + 1], Sz 750 L := fun L hL => by
    have sd' : Sz 741 (-d) := sd.mono (by decide)
    simp only [List.mem_cons, List.not_mem_nil, or_false] at hL
    rcases hL with rfl | rfl | rfl | rfl | rfl | rfl
    · exact near _ (-1) sd' (by decide) (by decide)
    · have := near _ 0 sd' (by decide) (by decide); rwa [Int.add_zero] at this
    · exact near _ 1 sd' (by decide) (by decide)
    · exact near _ (-1) sf (by decide) (by decide)
    · have := near _ 0 sf (by decide) (by decide); rwa [Int.add_zero] at this
    · exact near _ 1 sf (by decide) (by decide)
  obtain ⟨s13, s14, e13⟩ := limL G lt le ed (s0 := .val (.frz (ns.map D.int))) (s1 := .val (.lst (ds.map D.int))) (s4 := .val (.int (rs0.length : Int))) (s5 := .val (.lst (rs.map rwD))) (s7 := .val (.lst (tabD (ws.length + 1) (Tl ws.length rs)))) (s12 := .val (.int (farV d (Tl ws.length rs lo hi)))) (s15 := .none) (s16 := .none) (s17 := .none) (s18 := .none) (s19 := .none) (s20 := .none) _ .none .none hLs
  unfold El at e13
  simp only [List.map_cons, List.map_nil] at e13
  -- the ties
  have ext : ∀ j : Nat, ∃ q : Nat × Nat, (q.1 < q.2 ∧ q.2 ≤ ws.length) ∧ ∀ w : Wd, F__law_tie [.int (ds.getD (17 + j) 0), .int (ws.length : Int)] w = .ok (tiD q) w := fun j => by
    obtain ⟨x, y, h1, h2, h3⟩ := tie_w (ds.getD (17 + j) 0) m1 (by omega)
    exact ⟨(x, y), ⟨h2, h3⟩, h1⟩
  obtain ⟨tf, htf⟩ := Classical.axiomOfChoice ext
  have ht : ∀ q ∈ (List.range t).map tf, q.1 < q.2 ∧ q.2 ≤ ws.length := fun q hq => by
    obtain ⟨j, _, rfl⟩ := List.mem_map.mp hq
    exact (htf j).1
  have lt' : ((List.range t).map tf).length ≤ 24 := by rw [List.length_map, List.length_range]; omega
  have rg1 := fun w : Wd => range0 (w := w) t (by omega)
  have l1 : (rng 0 t).length ≤ line := le_line (by rw [rng_len]; omega)
  have lct : ∀ (s2 s3 s4 s5 s6 s7 s8 s9 s10 s11 s12 s13 s14 s15 s16 s17 s19 s20 : Slot) (w : Wd), lcL (gN 18) tYes (eCall F__law_tie [(eBin ixD (eVar 1) (eBin addD (eC (.int 17)) (eVar 18))), (eVar 2)]) [s2, .val (.lst (ds.map D.int)), .val (.int (ws.length : Int)), s3, s4, s5, s6, s7, s8, s9, s10, s11, s12, s13, s14, s15, s16, s17, .none, s19, s20] (rng 0 t) w = .ok (((List.range t).map tf).map tiD) w := fun s2 s3 s4 s5 s6 s7 s8 s9 s10 s11 s12 s13 s14 s15 s16 s17 s19 s20 w => by
    rw [rng_map, List.map_map]
    refine lcMap (f := fun (k : Nat) => D.int (k : Int)) (g := tiD ∘ tf) 18 _ (List.range t) fun j hj => ?_
    have hj := List.mem_range.mp hj
    have ij : itemAt (ds.map D.int) ((17 + j : Nat) : Int) = some (.int (ds.getD (17 + j) 0)) := item_get (by omega)
    have ea : (17 : Int) + (j : Int) = ((17 + j : Nat) : Int) := by omega
    have tj := (htf j).2
    simp? only [Nat.reduceSub, Nat.reduceAdd, ea, ij, ↓tj]
    rfl
  generalize (List.range t).map tf = ts at *
  have e15 := fun w : Wd => widest_w (w := w) G ht lt'
  have e17 := fun w : Wd => next_tie_w (w := w) G ht lt' (c := D.lst) (c' := D.lst) (.inl rfl) (.inl rfl)
  have e23 := fun w : Wd => next_tie_w (w := w) G ht lt' (c := D.lst) (c' := D.tup) (.inl rfl) (.inr rfl)
  have wsz := wdR_sz G ts 0 none (fun q z => by cases z)
  have e16 : ∀ (s12 s13 s14 s15 s17 s18 s19 s20 : Slot) (w : Wd), sIf (tAnd (tVal (eBin notNonD (eVar 16) (eC .non))) (tVal (eBin notNonD (eBin ixD (eVar 16) (eC (.int 1))) (eC .non)))) (sSet 16 (eTup [(eBin ixD (eVar 16) (eC (.int 0))), (eCall F__law_ratio [(eBin ixD (eVar 16) (eC (.int 1))), (eVar 3)])])) sNext [.val (.frz (ns.map D.int)), .val (.lst (ds.map D.int)), .val (.int (ws.length : Int)), .val (.int b), .val (.int (rs0.length : Int)), .val (.lst (rs.map rwD)), .val (.lst (rs.map (tlD b))), .val (.lst (tabD (ws.length + 1) (Tl ws.length rs))), .val (.int (lo : Int)), .val (.int (hi : Int)), .val (.int (-d)), .val (oD (Tl ws.length rs lo hi)), s12, s13, s14, s15, .val (wlD D.int (wdR ws.length rs 0 ts none)), s17, s18, s19, s20] w = .nx [.val (.frz (ns.map D.int)), .val (.lst (ds.map D.int)), .val (.int (ws.length : Int)), .val (.int b), .val (.int (rs0.length : Int)), .val (.lst (rs.map rwD)), .val (.lst (rs.map (tlD b))), .val (.lst (tabD (ws.length + 1) (Tl ws.length rs))), .val (.int (lo : Int)), .val (.int (hi : Int)), .val (.int (-d)), .val (oD (Tl ws.length rs lo hi)), s12, s13, s14, s15, .val (wlD (qf b) (wdR ws.length rs 0 ts none)), s17, s18, s19, s20] w := fun s12 s13 s14 s15 s17 s18 s19 s20 w => by
    have nt : ∀ (x y : D) (w : Wd), notNonD (.tup [x, y]) .non w = .ok (.bl true) w := fun x y w => rfl
    have ni : ∀ (i : Int) (w : Wd), notNonD (.int i) .non w = .ok (.bl true) w := fun q w => rfl
    cases eo : wdR ws.length rs 0 ts none with
    | none => simp? only [Nat.reduceSub, Nat.reduceAdd, wlD]
    | some q =>
      obtain ⟨n, x⟩ := q
      cases x with
      | none => simp? only [Nat.reduceSub, Nat.reduceAdd, wlD, ↓nt]
      | some x =>
        have ra := fun w : Wd => ratio_q (w := w) (a := x) (b := b) (k := 2) (by omega) (sz_lt (by omega) (by omega)) (by decide)
        simp? only [Nat.reduceSub, Nat.reduceAdd, wlD, ↓nt, ↓ni, ↓ra, qf]
  have n1 := fun w : Wd => ne_same (w := w) (flat_wl b (wdR ws.length rs 0 ts none))
  have q9 := fun w : Wd => eq_same (w := w) (flat_wl b (wdR ws.length rs 0 ts none))
  have rgk := fun w : Wd => range0 (w := w) rs0.length (by omega)
  obtain ⟨s18, s19, s20, e19⟩ := lawL G (s0 := .val (.frz (ns.map D.int))) (s1 := .val (.lst (ds.map D.int))) (s3 := .val (.int b)) (s4 := .val (.int (rs0.length : Int))) (s6 := .val (.lst (rs.map (tlD b)))) (s7 := .val (.lst (tabD (ws.length + 1) (Tl ws.length rs)))) (s8 := .val (.int (lo : Int))) (s9 := .val (.int (hi : Int))) (s10 := .val (.int (-d))) (s11 := .val (oD (Tl ws.length rs lo hi))) (s12 := .val (.int (farV d (Tl ws.length rs lo hi)))) (s13 := s13) (s14 := s14) (s15 := .val (.lst (ts.map tiD))) (s16 := .val (wlD (qf b) (wdR ws.length rs 0 ts none))) rs 0 [] .none .none .none rfl (by simp; omega)
  rw [lr] at e19
  unfold Ev at e19
  rw [List.nil_append, List.map_nil] at e19
  have e21 := fun w : Wd => needless_w (w := w) G (c := D.lst) (.inl rfl)
  have n2 := fun w : Wd => ne_same (w := w) (flat_ints (nds ws.length rs 0 rs))
  have q8 := fun w : Wd => eq_same (w := w) (flat_ints (nds ws.length rs 0 rs))
  have e22 := fun w : Wd => suspects_w (w := w) G
  rw [lr] at e22
  have tr : ∀ w : Wd, tupRgD (.int (rs0.length : Int)) w = .ok (.tup (rgD rs0.length)) w := fun w => by
    show (if 0 ≤ (rs0.length : Int) ∧ (rs0.length : Int) ≤ 1000000 then M.ret (D.tup (rgD (rs0.length : Int).toNat)) else M.fail) w = _
    rw [if_pos (by omega)]; rfl
  have n3 := fun w : Wd => ne_same (w := w) (flat_rg rs0.length)
  have f6 := fun (i : Int) (w : Wd) => fdiv_int (w := w) (k := 3) (i := i) (show (6 : Int) ≠ 0 by decide) (by unfold Sz; decide) (by decide)
  have md6 := fun (i : Int) (w : Wd) => mod_int (w := w) (i := i) (show (6 : Int) ≠ 0 by decide)
  have md3 := fun (i : Int) (w : Wd) => mod_int (w := w) (i := i) (show (3 : Int) ≠ 0 by decide)
  have md9 := fun (i : Int) (w : Wd) => mod_int (w := w) (i := i) (show (9 : Int) ≠ 0 by decide)
  have cR : nCall F__law_round_true [eVar 1, eC (.int 8), eVar 4, eCall F__law_weights [eVar 1, eC (.int 2), eVar 2]] [.val (.frz (ns.map D.int)), .val (.lst (ds.map D.int)), .val (.int (ws.length : Int)), .val (.int b), .val (.int (rs0.length : Int)), .none, .none, .none, .none, .none, .none, .none, .none, .none, .none, .none, .none, .none, .none, .none, .none] none = .ok (rs0.map rwD) none := by
    unfold nCall
    simp? only [Nat.reduceSub, Nat.reduceAdd, ↓e3, ↓e4]
  have oDs : oD (some d) = .int d := rfl
  refine ⟨none, ?_⟩
  unfold F_law
  simp? only [Nat.reduceSub, Nat.reduceAdd, ec, ↓e1, i0, i1, ↓f6, ↓md6, ↓md3, ↓md9, em, eb, ek, ↓cR, ↓e5, ↓e6, ↓e7, i16, ↓e8, q1, q2, q3, q4, oDs, ↓far, ↓mu1, ↓mu2, ↓e13, i22, et, ↓rg1, lcM_v _ _ _ _ l1, ↓lct, ↓e15, ↓e16, ↓e17, ↓n1, ↓rgk, ↓e19, ↓e21, ↓n2, ↓e22, ↓tr, ↓n3, ↓e23, ↓q9, ↓q8]
end K49
open PySem PySem.W PyProof.Rows
set_option maxRecDepth 100000 in
set_option maxHeartbeats 0 in
theorem PySem.Challenge.cw_wherelaid_k49_whole_verdicts_and_widths_holds : PySem.Challenge.rw_wherelaid_k49_whole_verdicts_and_widths.Holds := by
  w_on; o_law
  refine HandSHeadRun.head_imp (r := OpenLaw.row PySem.Challenge.rw_wherelaid_k49_whole_verdicts_and_widths) (q := view (OpenLaw.row PySem.Challenge.rw_wherelaid_k49_whole_verdicts_and_widths).prog [0, 53]) (H := FL.hookH 6 K49.cks K49.fns K49.bls) (ob := K49.ob) (M := 40000) (loose := K49.names) (d := HandSHeadRun.topDef (OpenLaw.row PySem.Challenge.rw_wherelaid_k49_whole_verdicts_and_widths).prog 53) (kwd := []) K49.ob_eq K49.run (by kernel_rfl) (by kernel_rfl) (by kernel_rfl) (by rfl) (by first | assumption | decide +kernel) (by decide +kernel) ⟨rfl, rfl, rfl, rfl, rfl, by decide +kernel⟩ ?hw ?hc
  case hw => w_witness2
  case hc =>
    refine FL.law_endH (l := PySem.Challenge.rw_wherelaid_k49_whole_verdicts_and_widths) (k := 7) (F := K49.F_law) rfl (by decide) (by kernel_rfl) ⟨rfl, by decide, by decide⟩ K49.plain ?G
    case G =>
      intro K w mg h KX GX c
      have e : (HandSHeadRun.topDef (OpenLaw.row PySem.Challenge.rw_wherelaid_k49_whole_verdicts_and_widths).prog 53).name = ("law" : PySem.Str) := by kernel_rfl
      rw [e]
      exact K49.law_mk (K49.all_mkH ⟨by decide +kernel, by decide +kernel⟩ KX GX c)
